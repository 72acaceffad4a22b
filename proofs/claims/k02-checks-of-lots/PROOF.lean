import PyProof.Rows.All
import Wide.All
import OpenK.AllK
import Wide.FinOn
import HandS.ForMost
import HandS.Exc
import HandS.Defaults
import HandS.Deep
import HandS.Style
import HandS.TupAny
import HandS.TupLe
import PyProof.P3Eq
import HandS.Small
import HandS.IsInst
import HandS.More
import HandS.Text
import KE.SortData
import HandS.Flow
import HandS.HotCalls
import HandS.HeadWalk
import HandS.Walk
import HandS.ExcCtx
import HandS.ExcInit
import HandS.ExcInitHot
import HandS.ExcIs
import HandS.ExcField
import KE.KExcIs
import PyProof.Rows.SeqGen
import PyProof.FactsAll.str_8
import PyProof.FactsAll.str_3
import PyProof.FactsAll.str_0
import PyProof.FactsAll.list_3
import PyProof.FactsAll.list_0
import PyProof.FactsAll.list_4
import PyProof.FactsAll.str_4
import PyProof.Rows.SeqCalls
import PyProof.Rows.FactsN_abs
import PyProof.Rows.FactsT3
import PyProof.Rows.FactsN_isinstance
import HandS.HeadHook1
import HandS.HeadHook2
import HandS.Head0
import HandS.Head1
import HandS.Head2
import HandS.HeadEnd
import PySem.Challenge.RW_keepsapart_k02_checks_of_lots
set_option Elab.async false
set_option linter.all false
set_option maxRecDepth 100000
namespace PI
open PySem

/-- pure data: what never changes any more -/
inductive D where
  | non | bl (b : Bool) | int (i : Int) | str (s : List Nat)
  | tup (xs : List D) | lst (xs : List D) | dct (kvs : List (D × D)) | ins (C : Nat) (fs : List (Nat × D))
deriving Inhabited

/-- a value: data, a place of the logical heap, a caught exception -/
inductive V2 where
  | val (d : D) | ref (n : Nat) | exn (C : Nat) (fs : List (Nat × D))
deriving Inhabited

/-- a logical object that may change -/
inductive LO where
  | dead | lst (xs : List D) | dct (kvs : List (D × D)) | ins (C : Nat) (fs : List (Nat × D))
deriving Inhabited

abbrev LH := List LO
abbrev SL := List (Option V2)

/-- how a computation ends -/
inductive R (α : Type) where
  | ok (a : α) (L : LH)
  | exc (C : Nat) (fs : List (Nat × D)) (L : LH)
  | stuck

def R.bind {α β : Type} : R α → (α → LH → R β) → R β
  | .ok a L, f => f a L
  | .exc C fs L, _ => .exc C fs L
  | .stuck, _ => .stuck
@[simp] theorem R.bind_ok {α β : Type} (a : α) (L : LH) (f : α → LH → R β) : (R.ok a L).bind f = f a L := (Eq.refl _).trans rfl
@[simp] theorem R.bind_exc {α β : Type} (C : Nat) (fs : List (Nat × D)) (L : LH) (f : α → LH → R β) : (R.exc C fs L : R α).bind f = .exc C fs L := rfl
@[simp] theorem R.bind_stuck {α β : Type} (f : α → LH → R β) : (R.stuck : R α).bind f = .stuck := rfl
theorem R.bind_assoc {α β γ : Type} (r : R α) (f : α → LH → R β) (g : β → LH → R γ) : (r.bind f).bind g = r.bind fun a L => (f a L).bind g := by cases r <;> rfl

/-- an option as a computation -/
def R.opt {α : Type} (o : Option α) (L : LH) : R α := match o with
  | some a => .ok a L
  | none => .stuck
@[simp] theorem R.opt_some {α : Type} (a : α) (L : LH) : R.opt (some a) L = .ok a L := rfl
@[simp] theorem R.opt_none {α : Type} (L : LH) : (R.opt none L : R α) = .stuck := rfl

mutual
def D.py : D → PyData
  | .non => .none
  | .bl b => .bool b
  | .int i => .int i
  | .str s => .str ⟨s.toArray⟩
  | .tup xs => .tuple (D.pys xs)
  | .lst xs => .list (D.pys xs)
  | .dct _ => .dict []
  | .ins _ _ => .dict []
def D.pys : List D → List PyData
  | [] => []
  | x :: xs => x.py :: D.pys xs
end
mutual
/-- plain data, at most n deep -/
def D.okd : Nat → D → Bool
  | _, .non => true
  | _, .bl _ => true
  | _, .int _ => true
  | _, .str _ => true
  | 0, .tup _ => false
  | 0, .lst _ => false
  | n + 1, .tup xs => D.okds n xs
  | n + 1, .lst xs => D.okds n xs
  | _, .dct _ => false
  | _, .ins _ _ => false
def D.okds : Nat → List D → Bool
  | _, [] => true
  | n, x :: xs => D.okd n x && D.okds n xs
end
mutual
/-- plain data -/
def okd' : D → Bool
  | .tup xs => okds' xs
  | .lst xs => okds' xs
  | .dct _ => false
  | .ins _ _ => false
  | _ => true
def okds' : List D → Bool
  | [] => true
  | x :: xs => okd' x && okds' xs
end
mutual
/-- Python's == -/
def D.eqv : D → D → Bool
  | .non, .non => true
  | .bl a, .bl b => a == b
  | .bl a, .int j => (if a then 1 else 0) == j
  | .int i, .bl b => i == (if b then 1 else 0)
  | .int i, .int j => i == j
  | .str x, .str y => x == y
  | .lst xs, .lst ys => D.eqvs xs ys
  | .tup xs, .tup ys => D.eqvs xs ys
  | _, _ => false
def D.eqvs : List D → List D → Bool
  | [], [] => true
  | x :: xs, y :: ys => D.eqv x y && D.eqvs xs ys
  | _, _ => false
end

/-- a value as data (a list that may change: as it is now) -/
def V2.view (L : LH) : V2 → Option D
  | .val d => some d
  | .ref n => match L[n]? with
    | some (.lst xs) => some (.lst xs)
    | _ => none
  | .exn _ _ => none
def V2.lst? (L : LH) : V2 → Option (List D)
  | .val (.lst xs) => some xs
  | .ref n => match L[n]? with
    | some (.lst xs) => some xs
    | _ => none
  | _ => none
def V2.seq? (L : LH) : V2 → Option (List D)
  | .val (.lst xs) => some xs
  | .val (.tup xs) => some xs
  | .ref n => match L[n]? with
    | some (.lst xs) => some xs
    | _ => none
  | _ => none
def V2.dct? (L : LH) : V2 → Option (List (D × D))
  | .val (.dct kvs) => some kvs
  | .ref n => match L[n]? with
    | some (.dct kvs) => some kvs
    | _ => none
  | _ => none
def V2.int? : V2 → Option Int
  | .val (.int i) => some i
  | _ => none
def V2.str? : V2 → Option (List Nat)
  | .val (.str s) => some s
  | _ => none
def V2.dat? : V2 → Option D
  | .val d => some d
  | _ => none
def dats : List V2 → Option (List D)
  | [] => some []
  | .val x :: r => (dats r).map (x :: ·)
  | _ => none
/-- truth -/
def D.truth : D → Option Bool
  | .non => some false
  | .bl b => some b
  | .int i => some (i != 0)
  | .str s => some (!s.isEmpty)
  | .tup xs => some (!xs.isEmpty)
  | .lst xs => some (!xs.isEmpty)
  | .dct kvs => some (!kvs.isEmpty)
  | .ins _ _ => none
def V2.truth (L : LH) : V2 → Option Bool
  | .val d => d.truth
  | .ref n => match L[n]? with
    | some (.lst xs) => some (!xs.isEmpty)
    | some (.dct kvs) => some (!kvs.isEmpty)
    | _ => none
  | .exn _ _ => none

/-- the longest list, text -/
abbrev lim : Nat := 16777216
/-- a new list -/
def newL (own : Bool) (xs : List D) (L : LH) : R V2 :=
  if xs.length ≤ lim then (if own then .ok (.ref L.length) (L ++ [.lst xs]) else .ok (.val (.lst xs)) L) else .stuck
def newT (xs : List D) (L : LH) : R V2 := if xs.length ≤ lim then .ok (.val (.tup xs)) L else .stuck
def newS (s : List Nat) (L : LH) : R V2 := if s.length ≤ lim then .ok (.val (.str s)) L else .stuck

end PI

set_option maxRecDepth 100000
set_option maxHeartbeats 1000000
namespace PI
open PySem PySem.Spec PyProof.Rows L2

/-- the ground: the written part, the classes' places and the names by number -/
structure Gd where
  K : PySem.W.Frag
  cn : Nat → Addr
  nm : Nat → Str
  /-- what somebody else holds: neither read nor written -/
  B : Addr → Prop

/-- a list that is read and that nobody changes -/
def LstAt (K : PySem.W.Frag) (O : Addr → Prop) (H : Hp) (a : Addr) (vs : List V) : Prop := Rd H a (.lst vs) ∧ ¬ O a
def TupAt (K : PySem.W.Frag) (O : Addr → Prop) (H : Hp) (a : Addr) (vs : List V) : Prop := (Rd H a (.tup vs) ∧ ¬ O a) ∨ ((∀ H', SqT K H' a vs))
theorem LstAt.sq {K : PySem.W.Frag} {O : Addr → Prop} {H : Hp} {a : Addr} {vs : List V} (h : LstAt K O H a vs) : SqL K H a vs := .inl h.1
theorem TupAt.sq {K : PySem.W.Frag} {O : Addr → Prop} {H : Hp} {a : Addr} {vs : List V} (h : TupAt K O H a vs) : SqT K H a vs := by
  rcases h with ⟨h, _⟩ | h
  · exact .inl h
  · exact h H
/-- a key of a dict with int and text keys -/
def RK : D → Key → Prop
  | .int i, k => k = .inl i
  | .str s, k => k = .inr ⟨s.toArray⟩ ∧ (∀ c ∈ s, c < 0x110000) ∧ s.length ≤ lim
  | _, _ => False

mutual
/-- the value v is the data d -/
def RD (G : Gd) (O : Addr → Prop) (H : Hp) : D → V → Prop
  | .non, v => v = .non
  | .bl b, v => v = .bl b
  | .int i, v => v = .int i
  | .str s, v => v = .str ⟨s.toArray⟩ ∧ (∀ c ∈ s, c < 0x110000) ∧ s.length ≤ lim
  | .tup xs, v => ∃ a vs, v = .ref a ∧ TupAt G.K O H a vs ∧ RDs G O H xs vs
  | .lst xs, v => ∃ a vs, v = .ref a ∧ LstAt G.K O H a vs ∧ RDs G O H xs vs
  | .dct kvs, v => ∃ a ks, v = .ref a ∧ (H a = some (.dK ks) ∧ ¬ O a) ∧ RDk G O H kvs ks
  | .ins C fs, v => ∃ a dx gs, v = .ref a ∧ (H a = some (.ins (G.cn C) dx gs) ∧ ¬ O a) ∧ RDf G O H fs gs
def RDs (G : Gd) (O : Addr → Prop) (H : Hp) : List D → List V → Prop
  | [], vs => vs = []
  | x :: xs, vs => ∃ v r, vs = v :: r ∧ RD G O H x v ∧ RDs G O H xs r
def RDk (G : Gd) (O : Addr → Prop) (H : Hp) : List (D × D) → List (Key × V) → Prop
  | [], vs => vs = []
  | (k, x) :: xs, vs => ∃ z v r, vs = (z, v) :: r ∧ RK k z ∧ RD G O H x v ∧ RDk G O H xs r
def RDf (G : Gd) (O : Addr → Prop) (H : Hp) : List (Nat × D) → List (Str × V) → Prop
  | [], vs => vs = []
  | (f, x) :: xs, vs => ∃ v r, vs = (G.nm f, v) :: r ∧ RD G O H x v ∧ RDf G O H xs r
end

/-- the steps that a heap takes: what is tracked and not owned stays, what comes to be owned was owned or is new -/
structure Stp (O : Addr → Prop) (H : Hp) (O' : Addr → Prop) (H' : Hp) : Prop where
  keep : ∀ a o, H a = some o → ¬ O a → H' a = some o
  grow : ∀ a, O' a → O a ∨ H a = none
theorem Stp.refl (O : Addr → Prop) (H : Hp) : Stp O H O H := ⟨fun _ _ h _ => h, fun _ h => .inl h⟩
theorem Stp.trans {O O1 O2 : Addr → Prop} {H H1 H2 : Hp} (a : Stp O H O1 H1) (b : Stp O1 H1 O2 H2) : Stp O H O2 H2 := by
  have no1 : ∀ x o, H x = some o → ¬ O x → ¬ O1 x := fun x o h n z => by
    rcases a.grow x z with q | q
    · exact n q
    · rw [h] at q; cases q
  refine ⟨fun x o h n => b.keep x o (a.keep x o h n) (no1 x o h n), fun x z => ?_⟩
  rcases b.grow x z with q | q
  · exact a.grow x q
  · cases e : H x with
    | none => exact .inr rfl
    | some o =>
      by_cases n : O x
      · exact .inl n
      · rw [a.keep x o e n] at q; cases q
theorem Stp.no {O O1 : Addr → Prop} {H H1 : Hp} (a : Stp O H O1 H1) {x : Addr} {o : HO} (h : H x = some o) (n : ¬ O x) : ¬ O1 x := fun z => by
  rcases a.grow x z with q | q
  · exact n q
  · rw [h] at q; cases q
theorem Stp.rd {O O1 : Addr → Prop} {H H1 : Hp} (s : Stp O H O1 H1) {a : Addr} {u : HO} (h : Rd H a u) (n : ¬ O a) : Rd H1 a u ∧ ¬ O1 a := by
  rcases h with h | ⟨o, h⟩
  · exact ⟨.inl (s.keep a _ h n), s.no h n⟩
  · exact ⟨.inr ⟨o, s.keep a _ h n⟩, s.no h n⟩
theorem Stp.lst {K : PySem.W.Frag} {O O1 : Addr → Prop} {H H1 : Hp} (s : Stp O H O1 H1) {a : Addr} {vs : List V} (h : LstAt K O H a vs) : LstAt K O1 H1 a vs := s.rd h.1 h.2
theorem Stp.tup {K : PySem.W.Frag} {O O1 : Addr → Prop} {H H1 : Hp} (s : Stp O H O1 H1) {a : Addr} {vs : List V} (h : TupAt K O H a vs) : TupAt K O1 H1 a vs := by
  rcases h with ⟨h, n⟩ | h
  · exact .inl (s.rd h n)
  · exact .inr h
section
variable {G : Gd} {O O1 : Addr → Prop} {H H1 : Hp}
mutual
theorem RD.go (s : Stp O H O1 H1) : ∀ (d : D) (v : V), RD G O H d v → RD G O1 H1 d v
  | .non, _, h => h
  | .bl _, _, h => h
  | .int _, _, h => h
  | .str _, _, h => h
  | .tup xs, _, h => by
    obtain ⟨a, vs, e, t, r⟩ := h
    exact ⟨a, vs, e, s.tup t, RDs.go s xs vs r⟩
  | .lst xs, _, h => by
    obtain ⟨a, vs, e, t, r⟩ := h
    exact ⟨a, vs, e, s.lst t, RDs.go s xs vs r⟩
  | .dct kvs, _, h => by
    obtain ⟨a, ks, e, ⟨t, n⟩, r⟩ := h
    exact ⟨a, ks, e, ⟨s.keep a _ t n, s.no t n⟩, RDk.go s kvs ks r⟩
  | .ins C fs, _, h => by
    obtain ⟨a, dx, gs, e, ⟨t, n⟩, r⟩ := h
    exact ⟨a, dx, gs, e, ⟨s.keep a _ t n, s.no t n⟩, RDf.go s fs gs r⟩
theorem RDs.go (s : Stp O H O1 H1) : ∀ (ds : List D) (vs : List V), RDs G O H ds vs → RDs G O1 H1 ds vs
  | [], _, h => h
  | x :: xs, _, h => by
    obtain ⟨v, r, e, h1, h2⟩ := h
    exact ⟨v, r, e, RD.go s x v h1, RDs.go s xs r h2⟩
theorem RDk.go (s : Stp O H O1 H1) : ∀ (ds : List (D × D)) (vs : List (Key × V)), RDk G O H ds vs → RDk G O1 H1 ds vs
  | [], _, h => h
  | (k, x) :: xs, _, h => by
    obtain ⟨z, v, r, e, hk, h1, h2⟩ := h
    exact ⟨z, v, r, e, hk, RD.go s x v h1, RDk.go s xs r h2⟩
theorem RDf.go (s : Stp O H O1 H1) : ∀ (ds : List (Nat × D)) (vs : List (Str × V)), RDf G O H ds vs → RDf G O1 H1 ds vs
  | [], _, h => h
  | (k, x) :: xs, _, h => by
    obtain ⟨v, r, e, h1, h2⟩ := h
    exact ⟨v, r, e, RD.go s x v h1, RDf.go s xs r h2⟩
end
end

section
variable {G : Gd} {O : Addr → Prop} {H : Hp}
theorem RDs.len : ∀ {ds : List D} {vs : List V}, RDs G O H ds vs → ds.length = vs.length
  | [], _, h => by cases (show _ = [] from h); rfl
  | x :: xs, _, h => by
    obtain ⟨v, r, e, _, h2⟩ := h
    subst e
    simp [RDs.len h2]
theorem RDs.app : ∀ {ds es : List D} {vs us : List V}, RDs G O H ds vs → RDs G O H es us → RDs G O H (ds ++ es) (vs ++ us)
  | [], _, _, _, h, h' => by cases (show _ = [] from h); exact h'
  | x :: xs, _, _, _, h, h' => by
    obtain ⟨v, r, e, h1, h2⟩ := h
    subst e
    exact ⟨v, r ++ _, rfl, h1, RDs.app h2 h'⟩
theorem RDs.get : ∀ {ds : List D} {vs : List V} {i : Nat} {d : D}, RDs G O H ds vs → ds[i]? = some d → ∃ v, vs[i]? = some v ∧ RD G O H d v
  | [], _, _, _, _, e => by simp at e
  | x :: xs, _, 0, d, h, e => by
    obtain ⟨v, r, rfl, h1, _⟩ := h
    simp at e
    subst e
    exact ⟨v, rfl, h1⟩
  | x :: xs, _, i + 1, d, h, e => by
    obtain ⟨v, r, rfl, _, h2⟩ := h
    obtain ⟨u, h3, h4⟩ := RDs.get (i := i) h2 (by simpa using e)
    exact ⟨u, by simpa using h3, h4⟩
theorem RDs.get' : ∀ {ds : List D} {vs : List V} {i : Nat} {v : V}, RDs G O H ds vs → vs[i]? = some v → ∃ d, ds[i]? = some d ∧ RD G O H d v
  | [], _, _, _, h, e => by cases (show _ = [] from h); simp at e
  | x :: xs, _, 0, w, h, e => by
    obtain ⟨v, r, rfl, h1, _⟩ := h
    simp at e
    subst e
    exact ⟨x, rfl, h1⟩
  | x :: xs, _, i + 1, w, h, e => by
    obtain ⟨v, r, rfl, _, h2⟩ := h
    obtain ⟨u, h3, h4⟩ := RDs.get' (i := i) h2 (by simpa using e)
    exact ⟨u, by simpa using h3, h4⟩
theorem RDs.set : ∀ {ds : List D} {vs : List V} (i : Nat) {d : D} {v : V}, RDs G O H ds vs → RD G O H d v → RDs G O H (ds.set i d) (vs.set i v)
  | [], _, _, _, _, h, _ => by cases (show _ = [] from h); rfl
  | x :: xs, _, 0, d, w, h, q => by
    obtain ⟨v, r, rfl, h1, h2⟩ := h
    exact ⟨w, r, rfl, q, h2⟩
  | x :: xs, _, i + 1, d, w, h, q => by
    obtain ⟨v, r, rfl, h1, h2⟩ := h
    exact ⟨v, r.set i w, rfl, h1, RDs.set i h2 q⟩
theorem RDs.take : ∀ {ds : List D} {vs : List V} (n : Nat), RDs G O H ds vs → RDs G O H (ds.take n) (vs.take n)
  | [], _, _, h => by cases (show _ = [] from h); simp; rfl
  | x :: xs, _, 0, h => rfl
  | x :: xs, _, n + 1, h => by
    obtain ⟨v, r, rfl, h1, h2⟩ := h
    exact ⟨v, r.take n, rfl, h1, RDs.take n h2⟩
theorem RDs.drop : ∀ {ds : List D} {vs : List V} (n : Nat), RDs G O H ds vs → RDs G O H (ds.drop n) (vs.drop n)
  | [], _, _, h => by cases (show _ = [] from h); simp; rfl
  | x :: xs, _, 0, h => h
  | x :: xs, _, n + 1, h => by
    obtain ⟨v, r, rfl, h1, h2⟩ := h
    exact RDs.drop n h2
theorem RDs.rev : ∀ {ds : List D} {vs : List V}, RDs G O H ds vs → RDs G O H ds.reverse vs.reverse
  | [], _, h => by cases (show _ = [] from h); rfl
  | x :: xs, _, h => by
    obtain ⟨v, r, rfl, h1, h2⟩ := h
    rw [List.reverse_cons, List.reverse_cons]
    exact RDs.app (RDs.rev h2) ⟨v, [], rfl, h1, rfl⟩
theorem RDs.one {d : D} {v : V} (h : RD G O H d v) : RDs G O H [d] [v] := ⟨v, [], rfl, h, rfl⟩
theorem RDs.erase : ∀ {ds : List D} {vs : List V} (i : Nat), RDs G O H ds vs → RDs G O H (ds.eraseIdx i) (vs.eraseIdx i)
  | [], _, _, h => by cases (show _ = [] from h); rfl
  | x :: xs, _, 0, h => by
    obtain ⟨v, r, rfl, h1, h2⟩ := h
    exact h2
  | x :: xs, _, i + 1, h => by
    obtain ⟨v, r, rfl, h1, h2⟩ := h
    exact ⟨v, r.eraseIdx i, rfl, h1, RDs.erase i h2⟩
theorem RDs.cut {ds : List D} {vs : List V} (h : RDs G O H ds vs) (lo hi : Option Int) : RDs G O H ((ds.drop (HT.sIx ds.length 0 lo)).take (HT.sIx ds.length ds.length hi - HT.sIx ds.length 0 lo)) (cutV vs lo hi) := by
  unfold cutV
  rw [h.len]
  exact (h.drop _).take _
end

/-- what the logical heap owns -/
def OwnL (φ : List Addr) (L : LH) (a : Addr) : Prop := ∃ i : Nat, ∃ o : LO, L[i]? = some o ∧ o ≠ .dead ∧ φ[i]? = some a
/-- what may change -/
def Own (G : Gd) (φ : List Addr) (L : LH) (a : Addr) : Prop := OwnL φ L a ∨ G.B a
/-- pinned exceptions -/
abbrev Pn := List (Addr × Obj)
/-- a caught exception -/
def RX (G : Gd) (pn : Pn) (O : Addr → Prop) (H : Hp) (C : Nat) (fs : List (Nat × D)) (v : V) : Prop :=
  ∃ (a : Addr) (oe : Obj) (dd : Option Addr), v = .ref a ∧ (a, oe) ∈ pn ∧ Zc (.ref (G.cn C)) dd oe ∧ (∃ vs, oe.data = .fields vs) ∧ ((∃ d gs, dd = some d ∧ (H d = some (.xd gs) ∧ ¬ O d) ∧ RDf G O H fs gs) ∨ (fs = [] ∧ dd = none))
/-- the value v is the value x -/
def RV (G : Gd) (pn : Pn) (φ : List Addr) (O : Addr → Prop) (H : Hp) : V2 → V → Prop
  | .val d, v => RD G O H d v
  | .ref n, v => ∃ a, v = .ref a ∧ φ[n]? = some a
  | .exn C fs, v => RX G pn O H C fs v
/-- the object at a -/
def RO (G : Gd) (O : Addr → Prop) (H : Hp) (a : Addr) : LO → Prop
  | .dead => True
  | .lst xs => ∃ vs, H a = some (.lst vs) ∧ RDs G O H xs vs
  | .dct kvs => ∃ ks, H a = some (.dK ks) ∧ RDk G O H kvs ks
  | .ins C fs => ∃ dx gs, H a = some (.ins (G.cn C) dx gs) ∧ RDf G O H fs gs
structure HR (G : Gd) (φ : List Addr) (L : LH) (H : Hp) : Prop where
  len : φ.length = L.length
  at_ : ∀ (i : Nat) (o : LO) (a : Addr), L[i]? = some o → φ[i]? = some a → RO G (Own G φ L) H a o
  inj : ∀ (i j : Nat) (o p : LO) (a : Addr), L[i]? = some o → o ≠ .dead → L[j]? = some p → p ≠ .dead → φ[i]? = some a → φ[j]? = some a → i = j
  res : ∀ a, G.B a → (∃ o, H a = some o) ∧ ¬ OwnL φ L a
/-- a step of the whole -/
structure Ext (G : Gd) (φ : List Addr) (L : LH) (H : Hp) (φ' : List Addr) (L' : LH) (H' : Hp) : Prop where
  stp : Stp (Own G φ L) H (Own G φ' L') H'
  pre : φ <+: φ'
  held : ∀ a, G.B a → H' a = H a
theorem Ext.refl (G : Gd) (φ : List Addr) (L : LH) (H : Hp) : Ext G φ L H φ L H := ⟨Stp.refl _ _, List.prefix_refl _, fun _ _ => rfl⟩
theorem Ext.trans {G : Gd} {φ φ1 φ2 : List Addr} {L L1 L2 : LH} {H H1 H2 : Hp} (a : Ext G φ L H φ1 L1 H1) (b : Ext G φ1 L1 H1 φ2 L2 H2) : Ext G φ L H φ2 L2 H2 := ⟨a.stp.trans b.stp, a.pre.trans b.pre, fun x h => (b.held x h).trans (a.held x h)⟩
theorem pre_get {φ φ' : List Addr} (h : φ <+: φ') {i : Nat} {a : Addr} (e : φ[i]? = some a) : φ'[i]? = some a := by
  obtain ⟨t, rfl⟩ := h
  rw [List.getElem?_append_left (List.getElem?_eq_some_iff.mp e).1]
  exact e
section
variable {G : Gd} {pn : Pn} {φ φ' : List Addr} {L L' : LH} {H H' : Hp}
theorem RX.go {O O1 : Addr → Prop} {H1 : Hp} (s : Stp O H O1 H1) {C : Nat} {fs : List (Nat × D)} {v : V} (h : RX G pn O H C fs v) : RX G pn O1 H1 C fs v := by
  obtain ⟨a, oe, dd, e, hp, hz, hf, q⟩ := h
  refine ⟨a, oe, dd, e, hp, hz, hf, ?_⟩
  rcases q with ⟨d, gs, e1, ⟨t, n⟩, r⟩ | q
  · exact .inl ⟨d, gs, e1, ⟨s.keep d _ t n, s.no t n⟩, RDf.go s fs gs r⟩
  · exact .inr q
theorem RV.go' {O O1 : Addr → Prop} {H1 : Hp} (s : Stp O H O1 H1) (p : φ <+: φ') : ∀ {x : V2} {v : V}, RV G pn φ O H x v → RV G pn φ' O1 H1 x v
  | .val d, v, h => RD.go s d v h
  | .ref n, v, ⟨a, e, q⟩ => ⟨a, e, pre_get p q⟩
  | .exn C fs, v, h => RX.go s h
theorem RV.go (e : Ext G φ L H φ' L' H') {x : V2} {v : V} (h : RV G pn φ (Own G φ L) H x v) : RV G pn φ' (Own G φ' L') H' x v := RV.go' e.stp e.pre h
theorem RO.go' {O O1 : Addr → Prop} {H1 : Hp} (s : Stp O H O1 H1) {a : Addr} (ha : H1 a = H a) : ∀ {o : LO}, RO G O H a o → RO G O1 H1 a o
  | .dead, _ => trivial
  | .lst xs, ⟨vs, e, r⟩ => ⟨vs, ha.trans e, RDs.go s xs vs r⟩
  | .dct kvs, ⟨ks, e, r⟩ => ⟨ks, ha.trans e, RDk.go s kvs ks r⟩
  | .ins C fs, ⟨dx, gs, e, r⟩ => ⟨dx, gs, ha.trans e, RDf.go s fs gs r⟩
theorem RO.there {O : Addr → Prop} {a : Addr} : ∀ {o : LO}, RO G O H a o → o ≠ .dead → ∃ u, H a = some u ∧ Mut (some u)
  | .dead, _, h => absurd rfl h
  | .lst xs, ⟨vs, e, r⟩, _ => ⟨_, e, trivial⟩
  | .dct kvs, ⟨ks, e, r⟩, _ => ⟨_, e, trivial⟩
  | .ins C fs, ⟨dx, gs, e, r⟩, _ => ⟨_, e, trivial⟩
theorem HR.own (h : HR G φ L H) {a : Addr} (o : Own G φ L a) : ∃ u, H a = some u := by
  rcases o with ⟨i, o, e1, e2, e3⟩ | o
  · obtain ⟨u, hu, _⟩ := RO.there (h.at_ i o a e1 e3) e2
    exact ⟨u, hu⟩
  · exact (h.res a o).1
theorem HR.notOwn (h : HR G φ L H) {a : Addr} (n : H a = none) : ¬ Own G φ L a := fun o => by
  obtain ⟨u, e⟩ := h.own o
  rw [n] at e; cases e
theorem HR.notB (h : HR G φ L H) {a : Addr} (n : H a = none) : ¬ G.B a := fun o => h.notOwn n (.inr o)
/-- a new object is laid and nobody owns it -/
theorem HR.lay (h : HR G φ L H) {p : Addr} (n : H p = none) (o : HO) : HR G φ L (upd H p o) ∧ Ext G φ L H φ L (upd H p o) := by
  have s : Stp (Own G φ L) H (Own G φ L) (upd H p o) := ⟨fun a u e _ => by rw [upd_ne (ne_of_none e n)]; exact e, fun _ z => .inl z⟩
  have hb : ∀ a, G.B a → (upd H p o) a = H a := fun a z => upd_ne fun e => h.notB n (by rw [← e]; exact z)
  refine ⟨⟨h.len, fun i u a e1 e2 => ?_, h.inj, fun a z => ⟨by rw [hb a z]; exact (h.res a z).1, (h.res a z).2⟩⟩, s, List.prefix_refl _, hb⟩
  by_cases hd : u = .dead
  · subst hd; trivial
  · have ha : a ≠ p := fun z => by
      obtain ⟨w, hw⟩ := h.own (.inl ⟨i, u, e1, hd, e2⟩)
      rw [z, n] at hw; cases hw
    exact RO.go' s (upd_ne ha) (h.at_ i u a e1 e2)
theorem ownL_app {p a : Addr} {l : LO} (hl : φ.length = L.length) (z : OwnL (φ ++ [p]) (L ++ [l]) a) : OwnL φ L a ∨ a = p := by
  obtain ⟨i, u, e1, e2, e3⟩ := z
  by_cases hi : i < L.length
  · rw [List.getElem?_append_left hi] at e1
    rw [List.getElem?_append_left (by rw [hl]; exact hi)] at e3
    exact .inl ⟨i, u, e1, e2, e3⟩
  · rw [List.getElem?_append_right (by rw [hl]; omega)] at e3
    have hz : i - φ.length = 0 := by
      have := (List.getElem?_eq_some_iff.mp e3).1
      simp at this
      omega
    rw [hz] at e3
    simp at e3
    exact .inr e3.symm
theorem HR.allocStp (h : HR G φ L H) {p : Addr} (n : H p = none) (o : HO) (l : LO) : Stp (Own G φ L) H (Own G (φ ++ [p]) (L ++ [l])) (upd H p o) := by
  refine ⟨fun a u e _ => by rw [upd_ne (ne_of_none e n)]; exact e, fun a z => ?_⟩
  rcases z with z | z
  · rcases ownL_app h.len z with z | z
    · exact .inl (.inl z)
    · rw [z]; exact .inr n
  · exact .inl (.inr z)
theorem ownL_set {n : Nat} {a x : Addr} {l l' : LO} (e1 : L[n]? = some l) (hd : l ≠ .dead) (e2 : φ[n]? = some a) (z : OwnL φ (L.set n l') x) : OwnL φ L x := by
  obtain ⟨i, u, q1, q2, q3⟩ := z
  by_cases hi : i = n
  · subst hi
    rw [e2] at q3
    cases q3
    exact ⟨i, l, e1, hd, e2⟩
  · rw [List.getElem?_set_ne (Ne.symm hi)] at q1
    exact ⟨i, u, q1, q2, q3⟩
theorem HR.putStp (h : HR G φ L H) {n : Nat} {a : Addr} {l : LO} (e1 : L[n]? = some l) (hd : l ≠ .dead) (e2 : φ[n]? = some a) (o : HO) (l' : LO) : Stp (Own G φ L) H (Own G φ (L.set n l')) (upd H a o) := by
  have oa : Own G φ L a := .inl ⟨n, l, e1, hd, e2⟩
  refine ⟨fun x u e no => by rw [upd_ne (fun z => no (by rw [z]; exact oa))]; exact e, fun x z => .inl ?_⟩
  rcases z with z | z
  · exact .inl (ownL_set e1 hd e2 z)
  · exact .inr z
/-- a new object is laid and owned -/
theorem HR.alloc (h : HR G φ L H) {p : Addr} (n : H p = none) (o : HO) (l : LO) (hl : l ≠ .dead) (r : RO G (Own G (φ ++ [p]) (L ++ [l])) (upd H p o) p l) :
    HR G (φ ++ [p]) (L ++ [l]) (upd H p o) ∧ Ext G φ L H (φ ++ [p]) (L ++ [l]) (upd H p o) ∧ (φ ++ [p])[L.length]? = some p := by
  have hlast : (φ ++ [p])[L.length]? = some p := by
    rw [← h.len, List.getElem?_append_right (Nat.le_refl _)]
    simp
  have s := h.allocStp n o l
  have pr : φ <+: φ ++ [p] := List.prefix_append _ _
  have hb : ∀ a, G.B a → (upd H p o) a = H a := fun a z => upd_ne fun e => h.notB n (by rw [← e]; exact z)
  refine ⟨⟨by simp [h.len], fun i u a e1 e2 => ?_, fun i j u w a e1 d1 e2 d2 e3 e4 => ?_, fun a z => ⟨by rw [hb a z]; exact (h.res a z).1, fun q => ?_⟩⟩, ⟨s, pr, hb⟩, hlast⟩
  · by_cases hi : i < L.length
    · rw [List.getElem?_append_left hi] at e1
      rw [List.getElem?_append_left (by rw [h.len]; exact hi)] at e2
      by_cases hd : u = .dead
      · subst hd; trivial
      · have ha : a ≠ p := fun z => by
          obtain ⟨w, hw⟩ := h.own (.inl ⟨i, u, e1, hd, e2⟩)
          rw [z, n] at hw; cases hw
        exact RO.go' s (upd_ne ha) (h.at_ i u a e1 e2)
    · have hi' : i = L.length := by
        have := (List.getElem?_eq_some_iff.mp e1).1
        simp at this
        omega
      subst hi'
      rw [hlast] at e2
      cases e2
      rw [List.getElem?_append_right (Nat.le_refl _)] at e1
      simp at e1
      subst e1
      exact r
  · have old : ∀ {i : Nat} {u : LO}, (L ++ [l])[i]? = some u → u ≠ .dead → (φ ++ [p])[i]? = some a → (i < L.length ∧ L[i]? = some u ∧ φ[i]? = some a) ∨ (i = L.length ∧ a = p) := fun {i u} e1 d e3 => by
      by_cases hi : i < L.length
      · rw [List.getElem?_append_left hi] at e1
        rw [List.getElem?_append_left (by rw [h.len]; exact hi)] at e3
        exact .inl ⟨hi, e1, e3⟩
      · have hi' : i = L.length := by
          have := (List.getElem?_eq_some_iff.mp e1).1
          simp at this
          omega
        subst hi'
        rw [hlast] at e3
        cases e3
        exact .inr ⟨rfl, rfl⟩
    rcases old e1 d1 e3 with ⟨a1, a2, a3⟩ | ⟨a1, a2⟩
    · rcases old e2 d2 e4 with ⟨b1, b2, b3⟩ | ⟨b1, b2⟩
      · exact h.inj i j u w a a2 d1 b2 d2 a3 b3
      · obtain ⟨x, hx⟩ := h.own (.inl ⟨i, u, a2, d1, a3⟩)
        rw [b2, n] at hx; cases hx
    · rcases old e2 d2 e4 with ⟨b1, b2, b3⟩ | ⟨b1, b2⟩
      · obtain ⟨x, hx⟩ := h.own (.inl ⟨j, w, b2, d2, b3⟩)
        rw [a2, n] at hx; cases hx
      · omega
  · rcases ownL_app h.len q with q | q
    · exact (h.res a z).2 q
    · rw [q] at z; exact h.notB n z
/-- an owned object is changed -/
theorem HR.put (h : HR G φ L H) {n : Nat} {a : Addr} {l l' : LO} (e1 : L[n]? = some l) (hd : l ≠ .dead) (e2 : φ[n]? = some a) (o : HO) (hl : l' ≠ .dead) (r : RO G (Own G φ (L.set n l')) (upd H a o) a l') :
    HR G φ (L.set n l') (upd H a o) ∧ Ext G φ L H φ (L.set n l') (upd H a o) := by
  have hn : n < L.length := (List.getElem?_eq_some_iff.mp e1).1
  have s := h.putStp e1 hd e2 o l'
  have nb : ¬ G.B a := fun z => (h.res a z).2 ⟨n, l, e1, hd, e2⟩
  have hb : ∀ x, G.B x → (upd H a o) x = H x := fun x z => upd_ne fun e => nb (by rw [← e]; exact z)
  refine ⟨⟨by simp [h.len], fun i u x q1 q2 => ?_, fun i j u w x q1 d1 q2 d2 q3 q4 => ?_, fun x z => ⟨by rw [hb x z]; exact (h.res x z).1, fun q => (h.res x z).2 (ownL_set e1 hd e2 q)⟩⟩, s, List.prefix_refl _, hb⟩
  · by_cases hi : i = n
    · subst hi
      rw [e2] at q2
      cases q2
      rw [List.getElem?_set_self hn] at q1
      cases q1
      exact r
    · rw [List.getElem?_set_ne (Ne.symm hi)] at q1
      by_cases hu : u = .dead
      · subst hu; trivial
      · have hx : x ≠ a := fun z => hi (h.inj i n u l a q1 hu e1 hd (by rw [← z]; exact q2) e2)
        exact RO.go' s (upd_ne hx) (h.at_ i u x q1 q2)
  · have old : ∀ {i : Nat} {u : LO}, (L.set n l')[i]? = some u → u ≠ .dead → ∃ u', L[i]? = some u' ∧ u' ≠ .dead := fun {i u} q d => by
      by_cases hi : i = n
      · subst hi; exact ⟨l, e1, hd⟩
      · rw [List.getElem?_set_ne (Ne.symm hi)] at q
        exact ⟨u, q, d⟩
    obtain ⟨u', a1, a2⟩ := old q1 d1
    obtain ⟨w', b1, b2⟩ := old q2 d2
    exact h.inj i j u' w' x a1 a2 b1 b2 q3 q4
/-- an owned object is let go -/
theorem HR.kill (h : HR G φ L H) {n : Nat} {l : LO} (e1 : L[n]? = some l) (hd : l ≠ .dead) : HR G φ (L.set n .dead) H ∧ Ext G φ L H φ (L.set n .dead) H ∧ ∀ a, φ[n]? = some a → ¬ Own G φ (L.set n .dead) a := by
  have old : ∀ {i : Nat} {u : LO}, (L.set n .dead)[i]? = some u → u ≠ .dead → L[i]? = some u ∧ i ≠ n := fun {i u} q d => by
    by_cases hi : i = n
    · subst hi
      by_cases hl : i < L.length
      · rw [List.getElem?_set_self hl] at q
        cases q
        exact absurd rfl d
      · rw [List.getElem?_eq_none (by simpa using hl)] at q; cases q
    · rw [List.getElem?_set_ne (Ne.symm hi)] at q
      exact ⟨q, hi⟩
  have ow : ∀ x, OwnL φ (L.set n .dead) x → OwnL φ L x := fun x ⟨i, u, q1, q2, q3⟩ => ⟨i, u, (old q1 q2).1, q2, q3⟩
  have s : Stp (Own G φ L) H (Own G φ (L.set n .dead)) H := ⟨fun x u e no => e, fun x z => .inl (z.imp (ow x) id)⟩
  refine ⟨⟨by simp [h.len], fun i u x q1 q2 => ?_, fun i j u w x q1 d1 q2 d2 q3 q4 => h.inj i j u w x (old q1 d1).1 d1 (old q2 d2).1 d2 q3 q4, fun x z => ⟨(h.res x z).1, fun q => (h.res x z).2 (ow x q)⟩⟩, ⟨s, List.prefix_refl _, fun _ _ => rfl⟩, fun a ha ho => ?_⟩
  · by_cases hu : u = .dead
    · subst hu; trivial
    · exact RO.go' s rfl (h.at_ i u x (old q1 hu).1 q2)
  · rcases ho with ⟨i, u, q1, q2, q3⟩ | ho
    · obtain ⟨a1, a2⟩ := old q1 q2
      exact a2 (h.inj i n u l a a1 q2 e1 hd q3 ha)
    · exact (h.res a ho).2 ⟨n, l, e1, hd, ha⟩
/-- the last ones are let go -/
theorem HR.trunc (h : HR G φ L H) (n : Nat) : HR G (φ.take n) (L.take n) H ∧ Stp (Own G φ L) H (Own G (φ.take n) (L.take n)) H := by
  have old : ∀ {i : Nat} {u : LO}, (L.take n)[i]? = some u → L[i]? = some u := fun {i u} q => by
    rw [List.getElem?_take] at q
    split at q
    · exact q
    · cases q
  have oldA : ∀ {i : Nat} {u : Addr}, (φ.take n)[i]? = some u → φ[i]? = some u := fun {i u} q => by
    rw [List.getElem?_take] at q
    split at q
    · exact q
    · cases q
  have ow : ∀ x, OwnL (φ.take n) (L.take n) x → OwnL φ L x := fun x ⟨i, u, q1, q2, q3⟩ => ⟨i, u, old q1, q2, oldA q3⟩
  have s : Stp (Own G φ L) H (Own G (φ.take n) (L.take n)) H := ⟨fun x u e no => e, fun x z => .inl (z.imp (ow x) id)⟩
  refine ⟨⟨by simp [h.len], fun i u x q1 q2 => RO.go' s rfl (h.at_ i u x (old q1) (oldA q2)), fun i j u w x q1 d1 q2 d2 q3 q4 => h.inj i j u w x (old q1) d1 (old q2) d2 (oldA q3) (oldA q4), fun x z => ⟨(h.res x z).1, fun q => (h.res x z).2 (ow x q)⟩⟩, s⟩
end
end PI

set_option maxRecDepth 100000
namespace PI
open PySem

inductive OpB where | add | sub | mul | fdiv | mod | pow | shl | shr | band | bor
deriving DecidableEq
inductive OpC where | eq | ne | lt | le | gt | ge | is | isNot | in_ | notIn
deriving DecidableEq
inductive BI where | len | int | all | any | sorted | list | tuple | sum | abs | min | max | repr | set | str | dict
deriving DecidableEq
inductive MI where | lAppend | lInsert | lPop | lPopAt | lIndex | lCount | lExtend | lReverse | lClear | lRemove | lCopy
  | sUpper | sCount | sFind | sJoin | sSplit | sIslower | sIsalpha | sReplace | sStartswith | sRstrip | sIndex | sPartition | dGet | dKeys
deriving DecidableEq
/-- what a handled exception forbids -/
def BI.calm : BI → Bool
  | .len => false
  | .int => false
  | .list => false
  | .tuple => false
  | _ => true
/-- classes that isinstance asks -/
inductive IC where | ty (n : String) | own (C : Nat)
/-- what a for walks -/
inductive IK where | over | range | enum | zip | revd
deriving DecidableEq
/-- where a for stores -/
inductive ITg where | nm (i : Nat) | tp (is : List Nat)

inductive IE where
  | c (d : D) | v (i : Nat) | g (x : Nat)
  | tup (es : List IE) | lst (own : Bool) (es : List IE)
  | bin (op : OpB) (own : Bool) (a b : IE) | neg (a : IE)
  | cmp (op : OpC) (a b : IE) | chain (o1 o2 : OpC) (a b c : IE)
  | and (a b : IE) | or (a b : IE) | not (a : IE) | ife (t a b : IE)
  | sub (a i : IE) | slice (own : Bool) (a : IE) (lo hi : Option IE) | rev (own : Bool) (a : IE)
  | call (own : Bool) (f : Nat) (es : List IE) (ks : List (Nat × IE))
  | bi (own : Bool) (b : BI) (es : List IE)
  | isi (e : IE) (cs : List IC)
  | comp (own : Bool) (elt : IE) (tg : ITg) (k : IK) (it : List IE) (ts : List IE)
  | meth (own : Bool) (m : MI) (e : IE) (es : List IE)
  | fld (e : IE) (f : Nat)
  | dnew (own : Bool)
  | lenset (e : IE)
  | comp2 (own : Bool) (elt : IE) (tg : ITg) (k : IK) (it : List IE) (ts : List IE) (tg2 : ITg) (k2 : IK) (it2 : List IE) (ts2 : List IE)

inductive IS where
  | set (i : Nat) (e : IE) | unp (is : List Nat) (e : IE) | put (o i e : IE) | aug (i : Nat) (op : OpB) (e : IE)
  | ex (e : IE) | ret (e : Option IE) | ife (t : IE) (a b : List IS)
  | for_ (tg : ITg) (k : IK) (it : List IE) (b : List IS)
  | whl (t : IE) (b : List IS)
  | pass | brk | cont
  | raise (C : Nat) (es : List IE)
  | try_ (b : List IS) (C i : Nat) (h : List IS)   -- try: b, except C as i: h
  | frz (i : Nat)   -- no text: the slot's list is never changed from here on

/-- a small power -/
def powOk (i j : Int) : Bool := decide (0 ≤ j) && decide (j ≤ 1000000) && decide (i.natAbs < 2 ^ 64)
def mulOk (i j : Int) : Bool := (decide (-(2 ^ 64) < i) && decide (i < 2 ^ 64)) || (decide (-(2 ^ 64) < j) && decide (j < 2 ^ 64))
/-- k times -/
def rep {α : Type} (xs : List α) (k : Int) : List α := (List.replicate k.toNat xs).flatten
def binInt (op : OpB) (i j : Int) (L : LH) : R V2 := match op with
  | .add => .ok (.val (.int (i + j))) L
  | .sub => .ok (.val (.int (i - j))) L
  | .mul => if mulOk i j then .ok (.val (.int (i * j))) L else .stuck
  | .fdiv => if 0 < j ∧ j < 1073741824 then .ok (.val (.int (i / j))) L else .stuck
  | .mod => if 0 < j then .ok (.val (.int (i % j))) L else .stuck
  | .pow => if powOk i j then .ok (.val (.int (i ^ j.toNat))) L else .stuck
  | .shl => if powOk i j then .ok (.val (.int (i * 2 ^ j.toNat))) L else .stuck
  | .shr => if 0 ≤ j then .ok (.val (.int (i / 2 ^ j.toNat))) L else .stuck
  | _ => .stuck
def kOk (k : Int) : Bool := decide (-(2 ^ 63) ≤ k) && decide (k < 2 ^ 63)
def binV (op : OpB) (own : Bool) (x y : V2) (L : LH) : R V2 :=
  match x.int?, y.int? with
  | some i, some j => binInt op i j L
  | none, some k => (match op with
    | .mul => (match x with
      | .val (.str s) => if kOk k then newS (rep s k) L else .stuck
      | _ => (match x.lst? L with
        | some xs => if kOk k && decide (xs.length * k.toNat ≤ lim) then newL own (rep xs k) L else .stuck
        | none => .stuck))
    | _ => .stuck)
  | _, _ => (match op with
    | .add => (match x, y with
      | .val (.str s), .val (.str t) => newS (s ++ t) L
      | .val (.tup xs), .val (.tup ys) => newT (xs ++ ys) L
      | _, _ => (match x.lst? L, y.lst? L with
        | some xs, some ys => newL own (xs ++ ys) L
        | _, _ => .stuck))
    | _ => .stuck)
/-- is a text within -/
def strIn (s t : List Nat) : Bool := !(Builtin.Str.occurrences ⟨t.toArray⟩ ⟨s.toArray⟩ 0 t.length 1).isEmpty
/-- order of texts -/
def strLt (s t : List Nat) : Bool := decide (s < t)
def okd (d : D) : Bool := D.okd 60 d
def cmpEq (x y : V2) (L : LH) : Option Bool := match x.view L, y.view L with
  | some a, some b => if okd a && okd b then some (a.eqv b) else none
  | _, _ => none
def cmpInt (op : OpC) (i j : Int) : Option Bool := match op with
  | .lt => some (decide (i < j))
  | .le => some (decide (i ≤ j))
  | .gt => some (decide (j < i))
  | .ge => some (decide (j ≤ i))
  | _ => none
mutual
/-- may be ordered against each other -/
def D.cmpb : D → D → Bool
  | .int _, .int _ => true
  | .str _, .str _ => true
  | .tup xs, .tup ys => D.cmpbs xs ys
  | _, _ => false
def D.cmpbs : List D → List D → Bool
  | x :: xs, y :: ys => D.cmpb x y && D.cmpbs xs ys
  | _, _ => true
end
mutual
/-- Python's order of such -/
def D.ltb : D → D → Bool
  | .int i, .int j => decide (i < j)
  | .str s, .str t => decide (s < t)
  | .tup xs, .tup ys => D.ltbs xs ys
  | _, _ => false
def D.ltbs : List D → List D → Bool
  | x :: xs, y :: ys => if x.eqv y then D.ltbs xs ys else D.ltb x y
  | [], _ :: _ => true
  | _, [] => false
end
def cmpLt (op : OpC) (x y : V2) : Option Bool := match x, y with
  | .val (.int i), .val (.int j) => cmpInt op i j
  | .val (.str s), .val (.str t) => (match op with
    | .lt => some (strLt s t)
    | _ => none)
  | .val (.tup xs), .val (.tup ys) => (match op with
    | .lt => if D.cmpbs xs ys && D.okds 50 xs && D.okds 50 ys then some (D.ltbs xs ys) else none
    | _ => none)
  | _, _ => none
def V2.isNon : V2 → Bool
  | .val .non => true
  | _ => false
def V2.isBl (b : Bool) : V2 → Bool
  | .val (.bl a) => a == b
  | _ => false
def cmpIs (x y : V2) : Option Bool := match y with
  | .val .non => some x.isNon
  | .val (.bl b) => some (x.isBl b)
  | _ => none
def inD (x : D) : List D → Bool
  | [] => false
  | y :: r => y.eqv x || inD x r
/-- a key of a dict -/
def keyOk : D → Bool
  | .int _ => true
  | .str _ => true
  | _ => false
def dictHas : List (D × D) → D → Bool
  | [], _ => false
  | (k, _) :: r, x => k.eqv x || dictHas r x
def dictGet : List (D × D) → D → Option D
  | [], _ => none
  | (k, v) :: r, x => if k.eqv x then some v else dictGet r x
def dictPut (kvs : List (D × D)) (x y : D) : List (D × D) := if dictHas kvs x then kvs.map (fun p => if p.1.eqv x then (p.1, y) else p) else kvs ++ [(x, y)]
def cmpIn (x y : V2) (L : LH) : Option Bool := match x.view L, y with
  | some (.str s), .val (.str t) => some (strIn s t)
  | some a, _ => (match y.seq? L with
    | some xs => if okd a && D.okds 59 xs then some (inD a xs) else none
    | none => (match y.dct? L, keyOk a with
      | some kvs, true => some (dictHas kvs a)
      | _, _ => none))
  | none, _ => none
def cmpV (op : OpC) (x y : V2) (L : LH) : Option Bool := match op with
  | .eq => cmpEq x y L
  | .ne => (cmpEq x y L).map (!·)
  | .is => cmpIs x y
  | .isNot => (cmpIs x y).map (!·)
  | .in_ => cmpIn x y L
  | .notIn => (cmpIn x y L).map (!·)
  | _ => cmpLt op x y
def cmpR (op : OpC) (x y : V2) (L : LH) : R V2 := match cmpV op x y L with
  | some b => .ok (.val (.bl b)) L
  | none => .stuck
def subV (x i : V2) (L : LH) : R V2 := match x.dct? L with
  | some kvs => (match i.dat? with
    | some k => if keyOk k then R.opt ((dictGet kvs k).map V2.val) L else .stuck
    | none => .stuck)
  | none => match i.int? with
  | some k => (match x with
    | .val (.str s) => (match L2.atI s k with
      | some c => .ok (.val (.str [c])) L
      | none => .stuck)
    | _ => (match x.seq? L with
      | some xs => (match L2.atI xs k with
        | some d => .ok (.val d) L
        | none => .stuck)
      | none => .stuck))
  | none => .stuck
def cutD {α : Type} (xs : List α) (lo hi : Option Int) : List α := (xs.drop (HT.sIx xs.length 0 lo)).take (HT.sIx xs.length xs.length hi - HT.sIx xs.length 0 lo)
def sliceV (own : Bool) (x : V2) (lo hi : Option Int) (L : LH) : R V2 := match x with
  | .val (.str s) => .ok (.val (.str (cutD s lo hi))) L
  | .val (.tup xs) => .ok (.val (.tup (cutD xs lo hi))) L
  | _ => (match x.lst? L with
    | some xs => newL own (cutD xs lo hi) L
    | none => .stuck)
def revV (own : Bool) (x : V2) (L : LH) : R V2 := match x.lst? L with
  | some xs => newL own xs.reverse L
  | none => .stuck
/-- a list of bools -/
def bools : List D → Option (List Bool)
  | [] => some []
  | .bl b :: r => (bools r).map (b :: ·)
  | _ => none
def intsD : List D → Option (List Int)
  | [] => some []
  | .int i :: r => (intsD r).map (i :: ·)
  | _ => none
/-- the ordered list -/
def srt (ds : List D) : List D := ds.mergeSort fun a b => !(b.ltb a)
def strsD : List D → Option (List (List Nat))
  | [] => some []
  | .str s :: r => (strsD r).map (s :: ·)
  | _ => none
def srtOk (ds : List D) : Bool := ds.all fun x => x.cmpb x && D.okd 50 x && ds.all fun y => x.cmpb y
def biV (own : Bool) (b : BI) (xs : List V2) (L : LH) : R V2 := match b, xs with
  | .len, [x] => (match x with
    | .val (.str s) => .ok (.val (.int s.length)) L
    | _ => (match x.seq? L with
      | some ys => .ok (.val (.int ys.length)) L
      | none => .stuck))
  | .int, [x] => (match x with
    | .val (.int i) => .ok (.val (.int i)) L
    | _ => .stuck)
  | .all, [x] => (match (x.lst? L).bind bools with
    | some bs => .ok (.val (.bl (bs.all id))) L
    | none => .stuck)
  | .any, [x] => (match (x.lst? L).bind bools with
    | some bs => .ok (.val (.bl (bs.any id))) L
    | none => .stuck)
  | .list, [x] => (match x.seq? L with
    | some ys => newL own ys L
    | none => .stuck)
  | .tuple, [x] => (match x with
    | .val (.tup ys) => .ok (.val (.tup ys)) L
    | _ => (match x.lst? L with
      | some ys => newT ys L
      | none => .stuck))
  | .sorted, [x] => (match x.seq? L with
    | some ys => if srtOk ys then newL own (srt ys) L else .stuck
    | none => .stuck)
  | .sum, [x] => (match (x.lst? L).bind intsD with
    | some is => .ok (.val (.int is.sum)) L
    | none => .stuck)
  | .max, [x, y] => (match x.int?, y.int? with
    | some i, some j => .ok (.val (.int (if j > i then j else i))) L
    | _, _ => .stuck)
  | .min, [x, y] => (match x.int?, y.int? with
    | some i, some j => .ok (.val (.int (if j < i then j else i))) L
    | _, _ => .stuck)
  | .abs, [x] => (match x.int? with
    | some i => .ok (.val (.int (if i < 0 then -i else i))) L
    | none => .stuck)
  | _, _ => .stuck
/-- a value's class -/
inductive TV where | ty (n : String) | own (C : Nat) | exn (C : Nat)
def tyOf (L : LH) : V2 → Option TV
  | .val .non => some (.ty "NoneType")
  | .val (.bl _) => some (.ty "bool")
  | .val (.int _) => some (.ty "int")
  | .val (.str _) => some (.ty "str")
  | .val (.tup _) => some (.ty "tuple")
  | .val (.lst _) => some (.ty "list")
  | .val (.dct _) => some (.ty "dict")
  | .val (.ins C _) => some (.own C)
  | .ref m => (match L[m]? with
    | some (.lst _) => some (.ty "list")
    | some (.dct _) => some (.ty "dict")
    | some (.ins C _) => some (.own C)
    | _ => none)
  | .exn C _ => some (.exn C)
def kits (kit : TV → IC → Option Bool) (t : TV) : List IC → Option Bool
  | [] => some false
  | c :: r => (match kit t c with
    | some true => some true
    | some false => kits kit t r
    | none => none)
def isIC (kit : TV → IC → Option Bool) (L : LH) (x : V2) (cs : List IC) : Option Bool := if cs.isEmpty || decide (100 < cs.length) then none else (tyOf L x).bind fun t => kits kit t cs
def upper (s : List Nat) : List Nat := s.map fun c => if 97 ≤ c ∧ c ≤ 122 then c - 32 else c
/-- a list's change -/
def lstPut (x : V2) (L : LH) (f : List D → Option (List D × D)) : R V2 := match x with
  | .ref n => (match L[n]? with
    | some (.lst xs) => (match f xs with
      | some (ys, d) => .ok (.val d) (L.set n (.lst ys))
      | none => .stuck)
    | _ => .stuck)
  | _ => .stuck
def methV (own : Bool) (m : MI) (x : V2) (xs : List V2) (L : LH) : R V2 := match m, xs with
  | .lAppend, [.val y] => lstPut x L fun ys => if ys.length < lim then some (ys ++ [y], .non) else none
  | .sUpper, [] => (match x with
    | .val (.str s) => if s.all (fun c => decide (c < 128)) && decide (s.length ≤ 5592405) then .ok (.val (.str (upper s))) L else .stuck
    | _ => .stuck)
  | .sCount, [y] => (match x, y with
    | .val (.str s), .val (.str [c]) => .ok (.val (.int (s.count c))) L
    | _, _ => .stuck)
  | .lInsert, [i, .val y] => (match i.int? with
    | some k => if 0 ≤ k ∧ k < 2 ^ 63 then lstPut x L (fun ys => if ys.length < lim then some (ys.take k.toNat ++ [y] ++ ys.drop k.toNat, .non) else none) else .stuck
    | none => .stuck)
  | .lPop, [] => lstPut x L fun ys => (ys[ys.length - 1]?).map fun y => (ys.dropLast, y)
  | .lPopAt, [i] => (match i.int? with
    | some k => if -(2 ^ 63) ≤ k ∧ k < 2 ^ 63 then lstPut x L (fun ys => (L2.ixN ys.length k).bind fun j => (ys[j]?).map fun y => (ys.eraseIdx j, y)) else .stuck
    | none => .stuck)
  | .lReverse, [] => lstPut x L fun ys => some (ys.reverse, .non)
  | .lClear, [] => lstPut x L fun _ => some ([], .non)
  | .sFind, [y] => (match x, y with
    | .val (.str s), .val (.str t) => .ok (.val (.int (Txt.find ⟨s.toArray⟩ ⟨t.toArray⟩))) L
    | _, _ => .stuck)
  | _, _ => .stuck

/-- the receiver's class -/
def MI.ty : MI → String
  | .lAppend | .lInsert | .lPop | .lPopAt | .lIndex | .lCount | .lExtend | .lReverse | .lClear | .lRemove | .lCopy => "list"
  | .sUpper | .sCount | .sFind | .sJoin | .sSplit | .sIslower | .sIsalpha | .sReplace | .sStartswith | .sRstrip | .sIndex | .sPartition => "str"
  | .dGet | .dKeys => "dict"
def methTy (m : MI) (x : V2) (L : LH) : Bool := match m.ty with
  | "list" => (x.lst? L).isSome
  | "str" => (match x with
    | .val (.str _) => true
    | _ => false)
  | _ => false
/-- the defs by number, their parameters -/
structure Cl where
  call : Nat → List V2 → LH → R V2
  bind : Nat → List V2 → List (Nat × V2) → Option (List V2)
  glob : Nat → D
  kit : TV → IC → Option Bool
  hot : Bool
  exc : Nat → Option (Nat × List (Nat × Nat)) := fun _ => none
  sub : Nat → Nat → Option Bool := fun _ _ => none
  callH : Nat → List V2 → LH → R V2 := fun _ _ _ => .stuck
/-- where an exception is handled -/
def Cl.heat (c : Cl) : Cl := { c with call := c.callH, hot := true }
/-- what a call hands back, where the list is not to change -/
def frzd (own : Bool) (n0 : Nat) (x : V2) (L : LH) : R V2 := match own with
  | true => .ok x L
  | false => (match x with
    | .ref n => if n = n0 then (match L[n]? with
        | some (.lst xs) => .ok (.val (.lst xs)) (L.take n)
        | some (.ins C fs) => .ok (.val (.ins C fs)) (L.take n)
        | some (.dct kvs) => .ok (.val (.dct kvs)) (L.take n)
        | _ => .stuck) else .ok x L
    | _ => .ok x L)
/-- the items that a for walks -/
def range2 (a b : Int) : List D := (List.range (b - a).toNat).map fun (k : Nat) => D.int (a + (k : Int))
def itemsV (k : IK) (xs : List V2) (L : LH) : Option (List D) := match k, xs with
  | .over, [x] => (match x with
    | .val (.str s) => some (s.map fun c => .str [c])
    | _ => x.seq? L)
  | .range, [x] => (match x with
    | .val (.int n) => if decide (-(2 ^ 62) ≤ n) && decide (n < 2 ^ 62) then some (range2 0 n) else none
    | _ => none)
  | .range, [x, y] => (match x, y with
    | .val (.int a), .val (.int b) => if decide (-(2 ^ 62) ≤ a) && decide (a < 2 ^ 62) && decide (-(2 ^ 62) ≤ b) && decide (b < 2 ^ 62) then some (range2 a b) else none
    | _, _ => none)
  | _, _ => none
/-- the list that must stand while it is walked -/
def srcOf (k : IK) (xs : List V2) : Option Nat := match k, xs with
  | .over, [.ref n] => some n
  | _, _ => none
def srcOk (src : Option Nat) (xs : List D) (L : LH) : Prop := match src with
  | none => True
  | some n => L[n]? = some (.lst xs)
def store (tg : ITg) (d : D) (sl : SL) : Option SL := match tg with
  | .nm i => some (sl.set i (some (.val d)))
  | .tp is => (match d with
    | .tup xs => if xs.length = is.length then some ((is.zip xs).foldl (fun s p => s.set p.1 (some (.val p.2))) sl) else none
    | _ => none)
open Classical in
/-- the turns of a comprehension -/
noncomputable def compGo (ev : SL → LH → R (Option D)) (tg : ITg) (sl : SL) (src : Option Nat) (ds : List D) (n : Nat) : List D → List D → LH → R (List D)
  | [], acc, L => if srcOk src ds L then .ok acc L else .stuck
  | x :: r, acc, L => if srcOk src ds L then (match store tg x sl with
    | some sl' => (match ev sl' L with
      | .ok (some y) L' => if L'.length = n && decide (acc.length < lim) then compGo ev tg sl src ds n r (acc ++ [y]) L' else .stuck
      | .ok none L' => if L'.length = n then compGo ev tg sl src ds n r acc L' else .stuck
      | _ => .stuck)
    | none => .stuck) else .stuck

open Classical in
/-- the turns of the outer of two -/
noncomputable def compGo2 (inner : SL → List D → LH → R (List D)) (tg : ITg) (sl : SL) (src : Option Nat) (ds : List D) (n : Nat) : List D → List D → LH → R (List D)
  | [], acc, L => if srcOk src ds L then .ok acc L else .stuck
  | x :: r, acc, L => if srcOk src ds L then (match store tg x sl with
    | some sl' => (match inner sl' acc L with
      | .ok acc' L' => if L'.length = n then compGo2 inner tg sl src ds n r acc' L' else .stuck
      | _ => .stuck)
    | none => .stuck) else .stuck
/-- a comprehension's test -/
def testOf (bs : List V2) (L : LH) : Option Bool := match bs with
  | [] => some true
  | [x] => x.truth L
  | _ => none

/-- is f a field of such an exception -/
def excFld : Option (Nat × List (Nat × Nat)) → Nat → Bool
  | some nl, f => nl.2.any fun p => p.1 == f
  | none, _ => false
open Classical in
mutual
noncomputable def ev (c : Cl) : IE → SL → LH → R V2
  | .c d, _, L => .ok (.val d) L
  | .v i, sl, L => (match sl[i]? with
    | some (some x) => .ok x L
    | _ => .stuck)
  | .g x, _, L => .ok (.val (c.glob x)) L
  | .tup es, sl, L => (evs c es sl L).bind fun xs L1 => match dats xs with
    | some ds => newT ds L1
    | none => .stuck
  | .lst own es, sl, L => (evs c es sl L).bind fun xs L1 => match dats xs with
    | some ds => newL own ds L1
    | none => .stuck
  | .bin op own a b, sl, L => (ev c a sl L).bind fun x L1 => (ev c b sl L1).bind fun y L2 => binV op own x y L2
  | .neg a, sl, L => (ev c a sl L).bind fun x L1 => match x with
    | .val (.int i) => .ok (.val (.int (-i))) L1
    | _ => .stuck
  | .cmp op a b, sl, L => (ev c a sl L).bind fun x L1 => (ev c b sl L1).bind fun y L2 => cmpR op x y L2
  | .chain o1 o2 a b d, sl, L => (ev c a sl L).bind fun x L1 => (ev c b sl L1).bind fun y L2 => (cmpR o1 x y L2).bind fun z L3 => match z with
    | .val (.bl true) => (ev c d sl L3).bind fun w L4 => cmpR o2 y w L4
    | .val (.bl false) => .ok (.val (.bl false)) L3
    | _ => .stuck
  | .and a b, sl, L => (ev c a sl L).bind fun x L1 => match x.truth L1 with
    | some true => ev c b sl L1
    | some false => .ok x L1
    | none => .stuck
  | .or a b, sl, L => (ev c a sl L).bind fun x L1 => match x.truth L1 with
    | some true => .ok x L1
    | some false => ev c b sl L1
    | none => .stuck
  | .not a, sl, L => (ev c a sl L).bind fun x L1 => match x.truth L1 with
    | some k => .ok (.val (.bl (!k))) L1
    | none => .stuck
  | .ife t a b, sl, L => (ev c t sl L).bind fun x L1 => match x.truth L1 with
    | some true => ev c a sl L1
    | some false => ev c b sl L1
    | none => .stuck
  | .sub a i, sl, L => (ev c a sl L).bind fun x L1 => (ev c i sl L1).bind fun y L2 => subV x y L2
  | .slice own a lo hi, sl, L => (ev c a sl L).bind fun x L1 => (evp c lo sl L1).bind fun l L2 => (evp c hi sl L2).bind fun h L3 => sliceV own x l h L3
  | .rev own a, sl, L => (ev c a sl L).bind fun x L1 => revV own x L1
  | .call own f es ks, sl, L => (evs c es sl L).bind fun xs L1 => (evk c ks sl L1).bind fun ys L2 => match c.bind f xs ys with
    | some zs => (c.call f zs L2).bind fun r L3 => frzd own L2.length r L3
    | none => .stuck
  | .bi own b es, sl, L => if c.hot && b.calm then .stuck else (evs c es sl L).bind fun xs L1 => biV own b xs L1
  | .isi e cs, sl, L => (ev c e sl L).bind fun x L1 => match isIC c.kit L1 x cs with
    | some k => .ok (.val (.bl k)) L1
    | none => .stuck
  | .comp own elt tg k it ts, sl, L => if c.hot then .stuck else (evs c it sl L).bind fun xs L1 => match itemsV k xs L1 with
    | some ds => (compGo (fun sl' L' => (evs c ts sl' L').bind fun bs L2 => (match testOf bs L2 with
        | some true => (ev c elt sl' L2).bind fun x L3 => (match x.dat? with
          | some d => .ok (some d) L3
          | none => .stuck)
        | some false => .ok none L2
        | none => .stuck)) tg sl (srcOf k xs) ds L1.length ds [] L1).bind fun ys L2 => newL own ys L2
    | none => .stuck
  | .fld e f, sl, L => (ev c e sl L).bind fun x L1 => match x with
    | .exn C fs => if excFld (c.exc C) f then R.opt ((fs.lookup f).map V2.val) L1 else .stuck
    | _ => .stuck
  | .dnew own, _, L => if own then .ok (.ref L.length) (L ++ [.dct []]) else .ok (.val (.dct [])) L
  | .lenset e, sl, L => if c.hot then .stuck else (ev c e sl L).bind fun x L1 => match (x.seq? L1).bind strsD with
    | some ss => if ss.length ≤ 1000 then .ok (.val (.int ss.eraseDups.length)) L1 else .stuck
    | none => .stuck
  | .comp2 own elt tg k it ts tg2 k2 it2 ts2, sl, L => if c.hot then .stuck else (evs c it sl L).bind fun xs L1 => match itemsV k xs L1 with
    | some ds => (compGo2 (fun sl' acc L' => (evs c ts sl' L').bind fun bs L2 => (match testOf bs L2 with
        | some true => (evs c it2 sl' L2).bind fun xs2 L3 => (match itemsV k2 xs2 L3 with
          | some ds2 => compGo (fun sl' L' => (evs c ts2 sl' L').bind fun bs L2 => (match testOf bs L2 with
            | some true => (ev c elt sl' L2).bind fun x L3 => (match x.dat? with
              | some d => .ok (some d) L3
              | none => .stuck)
            | some false => .ok none L2
            | none => .stuck)) tg2 sl' (srcOf k2 xs2) ds2 L1.length ds2 acc L3
          | none => .stuck)
        | some false => .ok acc L2
        | none => .stuck)) tg sl (srcOf k xs) ds L1.length ds [] L1).bind fun ys L2 => newL own ys L2
    | none => .stuck
  | .meth own m e es, sl, L => (ev c e sl L).bind fun x L1 => if methTy m x L1 then (evs c es sl L1).bind fun xs L2 => methV own m x xs L2 else .stuck
noncomputable def evs (c : Cl) : List IE → SL → LH → R (List V2)
  | [], _, L => .ok [] L
  | e :: r, sl, L => (ev c e sl L).bind fun x L1 => (evs c r sl L1).bind fun xs L2 => .ok (x :: xs) L2
noncomputable def evk (c : Cl) : List (Nat × IE) → SL → LH → R (List (Nat × V2))
  | [], _, L => .ok [] L
  | (k, e) :: r, sl, L => (ev c e sl L).bind fun x L1 => (evk c r sl L1).bind fun xs L2 => .ok ((k, x) :: xs) L2
/-- a slice's end -/
noncomputable def evp (c : Cl) : Option IE → SL → LH → R (Option Int)
  | none, _, L => .ok none L
  | some e, sl, L => (ev c e sl L).bind fun x L1 => match x.int? with
    | some i => .ok (some i) L1
    | none => .stuck
end
/-- as a test -/
noncomputable def evt (c : Cl) (e : IE) (sl : SL) (L : LH) : R Bool := (ev c e sl L).bind fun x L1 => R.opt (x.truth L1) L1

inductive RS where
  | nx (sl : SL) (L : LH) | rt (v : V2) (L : LH) | bk (sl : SL) (L : LH) | ct (sl : SL) (L : LH)
  | exc (C : Nat) (fs : List (Nat × D)) (sl : SL) (L : LH) | stuck
/-- a computation within a statement -/
def R.st {α : Type} (r : R α) (sl : SL) (f : α → LH → RS) : RS := match r with
  | .ok a L => f a L
  | .exc C fs L => .exc C fs sl L
  | .stuck => .stuck
@[simp] theorem R.st_ok {α : Type} (a : α) (L : LH) (sl : SL) (f : α → LH → RS) : (R.ok a L).st sl f = f a L := (Eq.refl _).trans rfl
@[simp] theorem R.st_exc {α : Type} (C : Nat) (fs : List (Nat × D)) (L : LH) (sl : SL) (f : α → LH → RS) : (R.exc C fs L : R α).st sl f = .exc C fs sl L := rfl
@[simp] theorem R.st_stuck {α : Type} (sl : SL) (f : α → LH → RS) : (R.stuck : R α).st sl f = .stuck := rfl
/-- one statement, then another -/
def RS.thn (r : RS) (f : SL → LH → RS) : RS := match r with
  | .nx sl L => f sl L
  | r => r
@[simp] theorem RS.thn_nx (sl : SL) (L : LH) (f : SL → LH → RS) : (RS.nx sl L).thn f = f sl L := (Eq.refl _).trans rfl
@[simp] theorem RS.thn_rt (v : V2) (L : LH) (f : SL → LH → RS) : (RS.rt v L).thn f = .rt v L := rfl
@[simp] theorem RS.thn_bk (sl : SL) (L : LH) (f : SL → LH → RS) : (RS.bk sl L).thn f = .bk sl L := rfl
@[simp] theorem RS.thn_ct (sl : SL) (L : LH) (f : SL → LH → RS) : (RS.ct sl L).thn f = .ct sl L := rfl
@[simp] theorem RS.thn_exc (C : Nat) (fs : List (Nat × D)) (sl : SL) (L : LH) (f : SL → LH → RS) : (RS.exc C fs sl L).thn f = .exc C fs sl L := rfl
@[simp] theorem RS.thn_stuck (f : SL → LH → RS) : RS.stuck.thn f = .stuck := rfl
/-- behind a loop's turn -/
def RS.turn (r : RS) (f : SL → LH → RS) : RS := match r with
  | .nx sl L => f sl L
  | .ct sl L => f sl L
  | .bk sl L => .nx sl L
  | r => r
@[simp] theorem RS.turn_nx (sl : SL) (L : LH) (f : SL → LH → RS) : (RS.nx sl L).turn f = f sl L := (Eq.refl _).trans rfl
@[simp] theorem RS.turn_rt (v : V2) (L : LH) (f : SL → LH → RS) : (RS.rt v L).turn f = .rt v L := rfl
@[simp] theorem RS.turn_bk (sl : SL) (L : LH) (f : SL → LH → RS) : (RS.bk sl L).turn f = .nx sl L := rfl
@[simp] theorem RS.turn_ct (sl : SL) (L : LH) (f : SL → LH → RS) : (RS.ct sl L).turn f = f sl L := (Eq.refl _).trans rfl
@[simp] theorem RS.turn_exc (C : Nat) (fs : List (Nat × D)) (sl : SL) (L : LH) (f : SL → LH → RS) : (RS.exc C fs sl L).turn f = .exc C fs sl L := rfl
@[simp] theorem RS.turn_stuck (f : SL → LH → RS) : RS.stuck.turn f = .stuck := rfl

open Classical in
/-- a for's turns -/
noncomputable def forGo (body : SL → LH → RS) (tg : ITg) (src : Option Nat) (ds : List D) : List D → SL → LH → RS
  | [], sl, L => if srcOk src ds L then .nx sl L else .stuck
  | x :: r, sl, L => if srcOk src ds L then (match store tg x sl with
    | some sl' => (body sl' L).turn fun s' L' => forGo body tg src ds r s' L'
    | none => .stuck) else .stuck
/-- a while's turns -/
def whlGo (t : SL → LH → R Bool) (body : SL → LH → RS) : Nat → SL → LH → RS
  | 0, _, _ => .stuck
  | n + 1, sl, L => (t sl L).st sl fun k L1 => if k then (body sl L1).turn fun s' L' => whlGo t body n s' L' else .nx sl L1
def whlMost : Nat := 1000000
/-- the list of slot i will not change any more -/
def frzSlot (sl : SL) (L : LH) (i : Nat) : RS := match sl[i]? with
  | some (some (.ref n)) => (match L[n]? with
    | some (.lst xs) => .nx (sl.map fun o => match o with
      | some (.ref m) => if m = n then some (.val (.lst xs)) else some (.ref m)
      | o => o) (L.set n .dead)
    | _ => .stuck)
  | _ => .stuck
def putV (o i : V2) (y : D) (L : LH) : Option LH := match o with
  | .ref n => (match L[n]? with
    | some (.lst xs) => (i.int?).bind fun k => (L2.ixN xs.length k).map fun j => L.set n (.lst (xs.set j y))
    | some (.dct kvs) => i.dat?.bind fun k => if keyOk k && decide (kvs.length < lim) then some (L.set n (.dct (dictPut kvs k y))) else none
    | _ => none)
  | _ => none
def unpV (is : List Nat) (x : V2) (sl : SL) : Option SL := match x with
  | .val d => store (.tp is) d sl
  | _ => none
/-- x op= y -/
def augI (op : OpB) (x : Int) : Option Int → Option Int
  | none => none
  | some z => (match op with
    | .add => some (x + z)
    | .sub => some (x - z)
    | _ => none)
/-- what an own __init__ stores: (field, parameter), one by one -/
def fldD (ds : List D) : List (Nat × Nat) → List (Nat × D) → List (Nat × D)
  | [], acc => acc
  | (f, i) :: r, acc => fldD ds r ((f, ds.getD (i - 1) .non) :: acc)
/-- what is raised is looked at -/
def RS.tried (r : RS) (sub : Nat → Option Bool) (f : Nat → List (Nat × D) → SL → LH → RS) : RS := match r with
  | .exc D fs sl L => (match sub D with
    | some true => f D fs sl L
    | some false => .exc D fs sl L
    | none => .stuck)
  | r => r
/-- the name of an except clause goes; nothing is raised there -/
def noExn : Option V2 → Option V2
  | some (.exn _ _) => none
  | o => o
def RS.gone (i : Nat) : RS → RS
  | .nx sl L => .nx ((sl.map noExn).set i none) L
  | .bk sl L => .bk ((sl.map noExn).set i none) L
  | .ct sl L => .ct ((sl.map noExn).set i none) L
  | .rt (.val d) L => .rt (.val d) L
  | .rt (.ref n) L => .rt (.ref n) L
  | _ => .stuck
mutual
noncomputable def exec : Cl → IS → SL → LH → RS
  | c, .set i e, sl, L => (ev c e sl L).st sl fun x L1 => .nx (sl.set i (some x)) L1
  | c, .unp is e, sl, L => if c.hot then .stuck else (ev c e sl L).st sl fun x L1 => match unpV is x sl with
    | some sl' => .nx sl' L1
    | none => .stuck
  | c, .put o i e, sl, L => (ev c e sl L).st sl fun y L1 => (ev c o sl L1).st sl fun x L2 => (ev c i sl L2).st sl fun k L3 => match y with
    | .val d => (match putV x k d L3 with
      | some L4 => .nx sl L4
      | none => .stuck)
    | _ => .stuck
  | c, .aug i op e, sl, L => (match sl[i]? with
    | some (some (.val (.int x))) => (ev c e sl L).st sl fun y L1 => match augI op x y.int? with
      | some w => .nx (sl.set i (some (.val (.int w)))) L1
      | none => .stuck
    | _ => .stuck)
  | c, .ex e, sl, L => (ev c e sl L).st sl fun _ L1 => .nx sl L1
  | c, .ret e, sl, L => (match e with
    | some e => (ev c e sl L).st sl fun x L1 => .rt x L1
    | none => .rt (.val .non) L)
  | c, .ife t a b, sl, L => (evt c t sl L).st sl fun k L1 => if k then execs c a sl L1 else execs c b sl L1
  | c, .for_ tg k it b, sl, L => if c.hot then .stuck else (evs c it sl L).st sl fun xs L1 => match itemsV k xs L1 with
    | some ds => forGo (fun s' L' => execs c b s' L') tg (srcOf k xs) ds ds sl L1
    | none => .stuck
  | c, .whl t b, sl, L => whlGo (fun s' L' => evt c t s' L') (fun s' L' => execs c b s' L') whlMost sl L
  | c, .pass, sl, L => .nx sl L
  | c, .brk, sl, L => .bk sl L
  | c, .cont, sl, L => .ct sl L
  | c, .raise C es, sl, L => if c.hot then .stuck else match c.exc C with
    | some nl => (evs c es sl L).st sl fun xs L1 => match dats xs with
      | some ds => if ds.length = nl.1 then .exc C (fldD ds nl.2 []) sl L1 else .stuck
      | none => .stuck
    | none => .stuck
  | c, .try_ b C i h, sl, L => if c.hot then .stuck else (execs c b sl L).tried (c.sub · C) fun D fs s1 L1 => (execs c.heat h (s1.set i (some (.exn D fs))) L1).gone i
  | c, .frz i, sl, L => frzSlot sl L i
noncomputable def execs : Cl → List IS → SL → LH → RS
  | c, [], sl, L => .nx sl L
  | c, s :: r, sl, L => (exec c s sl L).thn fun s' L' => execs c r s' L'
end

structure Fn where
  norm : List Nat
  kwo : List Nat := []
  dfl : List D := []
  kwd : List (Nat × D) := []
  slots : Nat
  body : List IS
/-- the arguments in the parameters' order -/
def bindP {α : Type} (norm kwo : List Nat) (dfl : List α) (kwd : List (Nat × α)) (pos : List α) (kw : List (Nat × α)) : Option (List α) :=
  if pos.length ≤ norm.length then
    let given := norm.zip pos ++ kw
    if kw.all (fun p => (norm ++ kwo).contains p.1) && decide (given.map (·.1)).Nodup then
      let all := given ++ ((norm.drop (norm.length - dfl.length)).zip dfl ++ kwd)
      (norm ++ kwo).mapM fun x => all.lookup x
    else none
  else none
structure Prog where
  fn : Nat → Option Fn
  glob : Nat → D
  kit : TV → IC → Option Bool
  exc : Nat → Option (Nat × List (Nat × Nat)) := fun _ => none
  sub : Nat → Nat → Option Bool := fun _ _ => none
def Prog.bind (P : Prog) (f : Nat) (pos : List V2) (kw : List (Nat × V2)) : Option (List V2) := match P.fn f with
  | some F => bindP F.norm F.kwo (F.dfl.map V2.val) (F.kwd.map fun p => (p.1, V2.val p.2)) pos kw
  | none => none
/-- what a def hands back; its own objects go -/
def retV (n0 : Nat) (v : V2) (L : LH) : R V2 := match v with
  | .val d => .ok (.val d) (L.take n0)
  | .ref n => if n < n0 then .ok (.ref n) (L.take n0) else (match L[n]? with
    | some .dead => .stuck
    | some o => .ok (.ref n0) (L.take n0 ++ [o])
    | none => .stuck)
  | .exn _ _ => .stuck
def RS.fin (n0 : Nat) : RS → R V2
  | .nx _ L => .ok (.val .non) (L.take n0)
  | .rt v L => retV n0 v L
  | .exc C fs _ L => .exc C fs (L.take n0)
  | _ => .stuck
noncomputable def runF (c : Cl) (F : Fn) (vs : List V2) (L : LH) : R V2 :=
  if vs.length = F.norm.length + F.kwo.length then (execs c F.body (vs.map some ++ List.replicate (F.slots - vs.length) none) L).fin L.length else .stuck
/-- a def's call, at most k defs deep -/
noncomputable def call (P : Prog) (hot : Bool) : Nat → Nat → List V2 → LH → R V2
  | 0, _, _, _ => .stuck
  | k + 1, f, vs, L => match P.fn f with
    | some F => runF ⟨call P hot k, P.bind, P.glob, P.kit, hot, P.exc, P.sub, call P true k⟩ F vs L
    | none => .stuck
/-- what a def sees -/
noncomputable def cl (P : Prog) (hot : Bool) (k : Nat) : Cl := ⟨call P hot k, P.bind, P.glob, P.kit, hot, P.exc, P.sub, call P true k⟩
theorem cl_heat (P : Prog) (hot : Bool) (k : Nat) : (cl P hot k).heat = cl P true k := rfl
end PI

set_option maxRecDepth 100000
set_option maxHeartbeats 1000000
namespace PI
open PySem PySem.Spec PyProof.Rows L2

theorem lim_eq : lim = sizeLine := by rw [sizeLine_eq]
/-- what is wanted behind a computation: Rel says what a result is -/
def Fin {α β : Type} (G : Gd) (Rel : List Addr → LH → Hp → α → β → Prop) (W : Nat → List (Nat × D) → List Addr → LH → Hp → Prop) (φ : List Addr) (L : LH) (H : Hp) (Q : β → Hp → Prop) : R α → Prop
  | .ok x L' => ∀ φ' v H', HR G φ' L' H' → Ext G φ L H φ' L' H' → Rel φ' L' H' x v → Q v H'
  | .exc C fs L' => ∀ φ' H', HR G φ' L' H' → Ext G φ L H φ' L' H' → W C fs φ' L' H'
  | .stuck => False
theorem Fin.ext {α β : Type} {G : Gd} {Rel : List Addr → LH → Hp → α → β → Prop} {W : Nat → List (Nat × D) → List Addr → LH → Hp → Prop} {φ φ1 : List Addr} {L L1 : LH} {H H1 : Hp} {Q : β → Hp → Prop} {c : R α}
    (e : Ext G φ L H φ1 L1 H1) (h : Fin G Rel W φ L H Q c) : Fin G Rel W φ1 L1 H1 Q c := by
  cases c with
  | ok x L' => exact fun φ' v H' h1 h2 h3 => h φ' v H' h1 (e.trans h2) h3
  | exc C fs L' => exact fun φ' H' h1 h2 => h φ' H' h1 (e.trans h2)
  | stuck => exact h
/-- no exception -/
abbrev noW : Nat → List (Nat × D) → List Addr → LH → Hp → Prop := fun _ _ _ _ _ => False
abbrev RelV2 (G : Gd) (pn : Pn) : List Addr → LH → Hp → V2 → V → Prop := fun φ L H x v => RV G pn φ (Own G φ L) H x v
/-- readings of operations by values -/
def rd1 (G : Gd) (pn : Pn) (f : V2 → LH → R V2) : V → Hp → VK → Prop := fun v H Q => ∃ (W : Nat → List (Nat × D) → List Addr → LH → Hp → Prop) (φ : List Addr) (L : LH) (x : V2), HR G φ L H ∧ RV G pn φ (Own G φ L) H x v ∧ Fin G (RelV2 G pn) W φ L H Q (f x L)
def rd2 (G : Gd) (pn : Pn) (f : V2 → V2 → LH → R V2) : R2 := fun v u H Q => ∃ (W : Nat → List (Nat × D) → List Addr → LH → Hp → Prop) (φ : List Addr) (L : LH) (x y : V2), HR G φ L H ∧ RV G pn φ (Own G φ L) H x v ∧ RV G pn φ (Own G φ L) H y u ∧ Fin G (RelV2 G pn) W φ L H Q (f x y L)
/-- several values -/
def RVs (G : Gd) (pn : Pn) (φ : List Addr) (O : Addr → Prop) (H : Hp) : List V2 → List V → Prop
  | [], vs => vs = []
  | x :: xs, vs => ∃ v r, vs = v :: r ∧ RV G pn φ O H x v ∧ RVs G pn φ O H xs r
def rdN (G : Gd) (pn : Pn) (f : List V2 → LH → R V2) : List V → Hp → VK → Prop := fun vs H Q => ∃ (W : Nat → List (Nat × D) → List Addr → LH → Hp → Prop) (φ : List Addr) (L : LH) (xs : List V2), HR G φ L H ∧ RVs G pn φ (Own G φ L) H xs vs ∧ Fin G (RelV2 G pn) W φ L H Q (f xs L)
def rdM (G : Gd) (pn : Pn) (f : V2 → List V2 → LH → R V2) : V → List V → Hp → VK → Prop := fun v vs H Q => ∃ (W : Nat → List (Nat × D) → List Addr → LH → Hp → Prop) (φ : List Addr) (L : LH) (x : V2) (xs : List V2), HR G φ L H ∧ RV G pn φ (Own G φ L) H x v ∧ RVs G pn φ (Own G φ L) H xs vs ∧ Fin G (RelV2 G pn) W φ L H Q (f x xs L)

section
variable {G : Gd} {pn : Pn} {φ : List Addr} {L : LH} {H : Hp} {Q : VK}
/-- a pure answer -/
theorem fin_val {W : Nat → List (Nat × D) → List Addr → LH → Hp → Prop} {d : D} {v : V} (h : HR G φ L H) (f : Fin G (RelV2 G pn) W φ L H Q (.ok (.val d) L)) (r : RD G (Own G φ L) H d v) : Q v H := f φ v H h (Ext.refl _ _ _ _) r
theorem fin_v2 {W : Nat → List (Nat × D) → List Addr → LH → Hp → Prop} {x : V2} {v : V} (h : HR G φ L H) (f : Fin G (RelV2 G pn) W φ L H Q (.ok x L)) (r : RV G pn φ (Own G φ L) H x v) : Q v H := f φ v H h (Ext.refl _ _ _ _) r
/-- a new list -/
theorem fin_newL {W : Nat → List (Nat × D) → List Addr → LH → Hp → Prop} {own : Bool} {xs : List D} {vs : List V} (h : HR G φ L H) (f : Fin G (RelV2 G pn) W φ L H Q (newL own xs L)) (r : RDs G (Own G φ L) H xs vs) :
    vs.length ≤ sizeLine ∧ ∀ p, H p = none → Q (.ref p) (upd H p (.lst vs)) := by
  unfold newL at f
  by_cases hl : xs.length ≤ lim
  · rw [if_pos hl] at f
    refine ⟨by rw [← r.len, ← lim_eq]; exact hl, fun p hp => ?_⟩
    cases own with
    | false =>
      obtain ⟨h1, e1⟩ := h.lay hp (.lst vs)
      refine f φ (.ref p) _ h1 e1 ⟨p, vs, rfl, ⟨.inl upd_same, fun z => (h.notOwn hp) z⟩, RDs.go e1.stp xs vs r⟩
    | true =>
      have r1 : RO G (Own G (φ ++ [p]) (L ++ [LO.lst xs])) (upd H p (.lst vs)) p (.lst xs) := ⟨vs, upd_same, by
        have s : Stp (Own G φ L) H (Own G (φ ++ [p]) (L ++ [LO.lst xs])) (upd H p (.lst vs)) := by
          exact (HR.allocStp h hp (.lst vs) (.lst xs))
        exact RDs.go s xs vs r⟩
      obtain ⟨h1, e1, e2⟩ := h.alloc hp (.lst vs) (.lst xs) (by intro z; cases z) r1
      exact f _ (.ref p) _ h1 e1 ⟨p, rfl, e2⟩
  · rw [if_neg hl] at f
    exact f.elim
theorem fin_newT {W : Nat → List (Nat × D) → List Addr → LH → Hp → Prop} {xs : List D} {vs : List V} (h : HR G φ L H) (f : Fin G (RelV2 G pn) W φ L H Q (newT xs L)) (r : RDs G (Own G φ L) H xs vs) :
    vs.length ≤ sizeLine ∧ ∀ p, H p = none → Q (.ref p) (upd H p (.tup vs)) := by
  unfold newT at f
  by_cases hl : xs.length ≤ lim
  · rw [if_pos hl] at f
    refine ⟨by rw [← r.len, ← lim_eq]; exact hl, fun p hp => ?_⟩
    obtain ⟨h1, e1⟩ := h.lay hp (.tup vs)
    exact f φ (.ref p) _ h1 e1 ⟨p, vs, rfl, .inl ⟨.inl upd_same, fun z => (h.notOwn hp) z⟩, RDs.go e1.stp xs vs r⟩
  · rw [if_neg hl] at f
    exact f.elim
theorem fin_tupKept {W : Nat → List (Nat × D) → List Addr → LH → Hp → Prop} {xs : List D} {a : Addr} {vs : List V} (h : HR G φ L H) (f : Fin G (RelV2 G pn) W φ L H Q (newT xs L)) (t : TupAt G.K (Own G φ L) H a vs) (r : RDs G (Own G φ L) H xs vs) : Q (.ref a) H := by
  unfold newT at f
  by_cases hl : xs.length ≤ lim
  · rw [if_pos hl] at f
    exact fin_val h f ⟨a, vs, rfl, t, r⟩
  · rw [if_neg hl] at f
    exact f.elim
theorem fin_newS {W : Nat → List (Nat × D) → List Addr → LH → Hp → Prop} {s : List Nat} (h : HR G φ L H) (f : Fin G (RelV2 G pn) W φ L H Q (newS s L)) (hc : ∀ c ∈ s, c < 0x110000) : s.length ≤ sizeLine ∧ Q (.str ⟨s.toArray⟩) H := by
  unfold newS at f
  by_cases hl : s.length ≤ lim
  · rw [if_pos hl] at f
    exact ⟨by rw [← lim_eq]; exact hl, fin_val h f ⟨rfl, hc, hl⟩⟩
  · rw [if_neg hl] at f
    exact f.elim

theorem RV.int {x : V2} {v : V} {i : Int} (r : RV G pn φ (Own G φ L) H x v) (e : x.int? = some i) : v = .int i ∧ x = .val (.int i) := by
  cases x with
  | val d => cases d <;> first | (simp [V2.int?] at e; subst e; exact ⟨r, rfl⟩) | (simp [V2.int?] at e)
  | ref n => simp [V2.int?] at e
  | exn C fs => simp [V2.int?] at e
/-- a list, whoever owns it -/
theorem RV.lst (h : HR G φ L H) {x : V2} {v : V} {xs : List D} (r : RV G pn φ (Own G φ L) H x v) (e : x.lst? L = some xs) : ∃ a vs, v = .ref a ∧ Rd H a (.lst vs) ∧ RDs G (Own G φ L) H xs vs := by
  cases x with
  | val d =>
    cases d with
    | lst ys =>
      simp [V2.lst?] at e
      subst e
      obtain ⟨a, vs, e, t, q⟩ := r
      exact ⟨a, vs, e, t.1, q⟩
    | _ => simp [V2.lst?] at e
  | ref n =>
    obtain ⟨a, rfl, ha⟩ := r
    cases hn : L[n]? with
    | none => simp [V2.lst?, hn] at e
    | some o =>
      cases o with
      | lst ys =>
        simp [V2.lst?, hn] at e
        subst e
        obtain ⟨vs, q1, q2⟩ := h.at_ n _ a hn ha
        exact ⟨a, vs, rfl, .inl q1, q2⟩
      | _ => simp [V2.lst?, hn] at e
  | exn C fs => simp [V2.lst?] at e
theorem RV.seq (h : HR G φ L H) {x : V2} {v : V} {xs : List D} (r : RV G pn φ (Own G φ L) H x v) (e : x.seq? L = some xs) : ∃ a vs, v = .ref a ∧ (Rd H a (.lst vs) ∨ SqT G.K H a vs) ∧ RDs G (Own G φ L) H xs vs := by
  cases x with
  | val d =>
    cases d with
    | tup ys =>
      simp [V2.seq?] at e
      subst e
      obtain ⟨a, vs, e, t, q⟩ := r
      exact ⟨a, vs, e, .inr t.sq, q⟩
    | lst ys =>
      simp [V2.seq?] at e
      subst e
      obtain ⟨a, vs, e, t, q⟩ := r
      exact ⟨a, vs, e, .inl t.1, q⟩
    | _ => simp [V2.seq?] at e
  | ref n =>
    have e' : (V2.ref n).lst? L = some xs := e
    obtain ⟨a, vs, e1, t, q⟩ := RV.lst h r e'
    exact ⟨a, vs, e1, .inl t, q⟩
  | exn C fs => simp [V2.seq?] at e
/-- an owned list -/
theorem RV.own (h : HR G φ L H) {n : Nat} {v : V} {xs : List D} (r : RV G pn φ (Own G φ L) H (.ref n) v) (e : L[n]? = some (.lst xs)) : ∃ a vs, v = .ref a ∧ φ[n]? = some a ∧ H a = some (.lst vs) ∧ RDs G (Own G φ L) H xs vs := by
  obtain ⟨a, rfl, ha⟩ := r
  obtain ⟨vs, q1, q2⟩ := h.at_ n _ a e ha
  exact ⟨a, vs, rfl, ha, q1, q2⟩
/-- an owned list is changed -/
theorem fin_put (h : HR G φ L H) {n : Nat} {a : Addr} {xs ys : List D} {us : List V} (e : L[n]? = some (.lst xs)) (ha : φ[n]? = some a) (r : RDs G (Own G φ L) H ys us) :
    HR G φ (L.set n (.lst ys)) (upd H a (.lst us)) ∧ Ext G φ L H φ (L.set n (.lst ys)) (upd H a (.lst us)) := by
  refine h.put e (by intro z; cases z) ha (.lst us) (by intro z; cases z) ⟨us, upd_same, ?_⟩
  exact RDs.go (h.putStp e (by intro z; cases z) ha (.lst us) (.lst ys)) ys us r
end
end PI

set_option maxRecDepth 100000
set_option maxHeartbeats 1000000
namespace PI
open PySem PySem.Spec PyProof.Rows L2

section
variable {G : Gd} {pn : Pn} {φ : List Addr} {L : LH} {H : Hp} {Q : VK} {X : Cx}
theorem RDs.repl {O : Addr → Prop} {ds : List D} {vs : List V} (r : RDs G O H ds vs) : ∀ k : Nat, RDs G O H (List.replicate k ds).flatten (List.replicate k vs).flatten
  | 0 => rfl
  | k + 1 => by
    rw [List.replicate_succ, List.replicate_succ, List.flatten_cons, List.flatten_cons]
    exact RDs.app r (RDs.repl r k)
theorem lstR {pins : List (Addr × Obj)} {σ : L2.St} {s : Shared} {l : Addr} {xs : List V} (I : Inv X pins σ H s) (hH : Rd H l (.lst xs)) :
    xs.length ≤ sizeLine ∧ ∃ (its : List Value) (n : Nat), Vals xs its ∧ xs.length = its.length ∧ s.heap.get? l = some { cls := .type "list", data := .seq its.toArray n } := by
  obtain ⟨z, its, n, r, e⟩ := hH.ok I.hok
  exact ⟨z, its, n, r, r.length, e⟩
theorem op_catR : OpR X (binaryOp .Add) (fun x y H Q => ∃ l b xs zs, x = .ref l ∧ y = .ref b ∧ Rd H l (.lst xs) ∧ Rd H b (.lst zs) ∧ xs.length + zs.length ≤ sizeLine ∧ ∀ p, H p = none → Q (.ref p) (upd H p (.lst (xs ++ zs)))) := by
  intro pins s σ H x y v u Q I rx ry h
  obtain ⟨l, b, xs, zs, rfl, rfl, hH, hB, hz, q⟩ := h
  cases rx
  cases ry
  obtain ⟨z, its, n, r, hl, e⟩ := lstR I hH
  obtain ⟨z2, its2, n2, r2, hl2, e2⟩ := lstR I hB
  refine PySem.P.add_list e e2 ?_ (by rw [List.size_toArray, List.size_toArray]; omega)
  have ea : its.toArray ++ its2.toArray = (its ++ its2).toArray := by simp
  rw [ea]
  exact ⟨.ref _, _, I.lnew (t' := s.toks) (r.append r2) (by rw [List.length_append]; omega), rfl, q _ I.fresh⟩
theorem op_repR : OpR X (binaryOp .Mult) (fun x y H Q => ∃ l k xs, x = .ref l ∧ y = .int k ∧ Rd H l (.lst xs) ∧ -(2 ^ 63) ≤ k ∧ k < 2 ^ 63 ∧ xs.length * k.toNat ≤ sizeLine ∧
    ∀ p, H p = none → Q (.ref p) (upd H p (.lst (List.replicate k.toNat xs).flatten))) := by
  intro pins s σ H x y v u Q I rx ry h
  obtain ⟨l, k, xs, rfl, rfl, hH, h1, h2, hz, q⟩ := h
  cases rx
  obtain ⟨t, rfl⟩ := ry
  obtain ⟨z, its, n, r, hl, e⟩ := lstR I hH
  have hlen : its.toArray.size * k.toNat ≤ sizeLine := by rw [List.size_toArray, ← hl]; exact hz
  have hcap : ¬ its.toArray.size * k.toNat > (2 ^ 63 - 1) / 8 := by
    have : (sizeLine : Nat) ≤ (2 ^ 63 - 1) / 8 := by decide
    omega
  have hfit : ¬ (!Builtin.List.listFitsIndex k) = true := by
    rw [fitsIndex_both h1 h2]
    exact Bool.false_ne_true
  have hlong : ¬ Builtin.List.listTooLong (its.toArray.size * k.toNat) = true := by
    rw [notLongL hlen]
    exact Bool.false_ne_true
  have hnew : List.foldl (fun x1 x2 => x1 ++ x2) #[] (List.replicate (if its.toArray.isEmpty = true then 0 else k.toNat) its.toArray) = (List.replicate k.toNat its).flatten.toArray := by
    have f0 : ∀ m : Nat, List.foldl (fun x1 x2 => x1 ++ x2) #[] (List.replicate m its.toArray) = (List.replicate m its).flatten.toArray := fun m => by
      have := foldl_rep its m []
      rw [List.nil_append] at this
      exact this
    rw [f0]
    cases its with
    | nil => simp
    | cons a r' => rw [if_neg (by simp)]
  refine wpAny_binaryOp_repeat_ref (T := "list") (U := "int") (by decide) ⟨_, e, rfl⟩ (fun s' => typeIs_int s' k t) noFill_list_mul F.fills_int_mul F.slot_int_rmul repeat_list F.slot_int_index.lookup
    (call_meets F.slot_int_rmul (typeIs_int s k t) F.entry_int_rmul (F.args_int_rmul_2 _ _) (int___rmul___int_list k t l its.toArray n)
      ⟨e, rfl, ⟨_, e, rfl⟩, call_meets F.slot_list_mul ⟨_, e, rfl⟩ F.entry_list_mul (F.args_list_mul_2 _ _) (AutoListH.list___mul___list_int_3 l its.toArray n k t hfit hcap hlong) ⟨e, ?_⟩⟩)
  rw [hnew]
  exact ⟨.ref _, _, I.lnew (t' := s.toks) (r.rep k.toNat) (by rw [PyProof.Rows.lm_len_rep_flat, Nat.mul_comm]; exact hz), rfl, q _ I.fresh⟩
theorem foldl_arr (c : Array Nat) : ∀ (m : Nat) (acc : Array Nat), ((List.replicate m c).foldl (· ++ ·) acc).toList = acc.toList ++ (List.replicate m c.toList).flatten
  | 0, acc => by simp
  | m + 1, acc => by
    rw [List.replicate_succ, List.foldl_cons, foldl_arr c m]
    simp [List.replicate_succ]
theorem mul_rep (s : List Nat) (k : Int) : Txt.mul ⟨s.toArray⟩ k = ⟨(rep s k).toArray⟩ := by
  unfold Txt.mul rep
  by_cases h1 : k < 1
  · have e : k.toNat = 0 := by omega
    rw [if_pos h1, e]
    rfl
  · rw [if_neg h1]
    by_cases h2 : (k == 1 || (⟨s.toArray⟩ : Str).length == 0) = true
    · rw [if_pos h2]
      rcases Bool.or_eq_true_iff.mp h2 with q | q
      · have e : k = 1 := by simpa using q
        subst e
        simp
      · have e : s = [] := by
          have : (⟨s.toArray⟩ : Str).length = 0 := by simpa using q
          simpa [Str.length] using this
        subst e
        have : ∀ m : Nat, (List.replicate m ([] : List Nat)).flatten = [] := fun m => by induction m with
          | zero => rfl
          | succ m ih => rw [List.replicate_succ, List.flatten_cons, ih]; rfl
        rw [this]
    · rw [if_neg h2]
      congr 1
      apply Array.toList_inj.mp
      rw [foldl_arr]
      simp
theorem op_mulStr : OpR X (binaryOp .Mult) (fun x y H Q => ∃ (s : List Nat) (k : Int), x = .str ⟨s.toArray⟩ ∧ y = .int k ∧ -(2 ^ 63) ≤ k ∧ k < 2 ^ 63 ∧ (rep s k).length ≤ sizeLine ∧ Q (.str ⟨(rep s k).toArray⟩) H) := by
  intro pins st σ H x y v u Q I rx ry h
  obtain ⟨s, k, rfl, rfl, h1, h2, hz, q⟩ := h
  obtain ⟨t, rfl⟩ := rx
  obtain ⟨t', rfl⟩ := ry
  have hl : (rep s k).length = k.toNat * s.length := by unfold rep; rw [PyProof.Rows.lm_len_rep_flat]
  have hprod : s.length * k.toNat ≤ 16777216 := by rw [Nat.mul_comm, ← hl]; rw [sizeLine_eq] at hz; exact hz
  have hok : MulOk (⟨s.toArray⟩ : Str) k := by
    have ls : (⟨s.toArray⟩ : Str).length = s.length := by simp [Str.length]
    refine ⟨?_, fun h0 _ => ?_, fun h0 _ => ?_⟩
    · have a1 : ¬ k < -(2 ^ 63 : Int) := by omega
      have a2 : ¬ k ≥ (2 ^ 63 : Int) := by omega
      rw [decide_eq_false a1, decide_eq_false a2]; rfl
    · rw [ls]
      have hpos : 0 < k := by omega
      have e : ((s.length * k.toNat : Nat) : Int) = (s.length : Int) * k := by
        rw [Int.natCast_mul, Int.toNat_of_nonneg (by omega)]
      have h3 : (s.length : Int) * k ≤ 2 ^ 63 - 1 := by rw [← e]; omega
      have h4 : (s.length : Int) ≤ (2 ^ 63 - 1) / k := (Int.le_ediv_iff_mul_le hpos).mpr h3
      omega
    · rw [ls]
      exact short24 hprod
  refine SB.mul hok fun t2 k2 => ?_
  rw [mul_rep]
  exact ⟨.str _, H, I.tok _, ⟨_, rfl⟩, q⟩

theorem str_app (s t : List Nat) : (⟨s.toArray⟩ : Str) ++ ⟨t.toArray⟩ = ⟨(s ++ t).toArray⟩ := by
  show (⟨s.toArray ++ t.toArray⟩ : Str) = _
  simp
theorem ok_add (hX : X.K = G.K) (own : Bool) : OpR X (binaryOp .Add) (rd2 G pn (binV .add own)) := by
  intro pins s σ H v u w z Q I rv ru h
  obtain ⟨W, φ, L, x, y, hR, rx, ry, f⟩ := h
  unfold binV at f
  cases ei : x.int? with
  | some i =>
    cases ej : y.int? with
    | some j =>
      simp only [ei, ej] at f
      obtain ⟨rfl, _⟩ := RV.int rx ei
      obtain ⟨rfl, _⟩ := RV.int ry ej
      exact op_add pins s σ H _ _ w z Q I rv ru ⟨i, j, rfl, rfl, fin_val hR f rfl⟩
    | none =>
      obtain ⟨_, rfl⟩ := RV.int rx ei
      simp only [ei, ej] at f
      cases y with
      | val d => cases d <;> exact f.elim
      | ref n => exact f.elim
      | exn C fs => exact f.elim
  | none =>
    cases ej : y.int? with
    | some j =>
      simp only [ei, ej] at f
      exact f.elim
    | none =>
      simp only [ei, ej] at f
      have lists : ∀ xs ys, x.lst? L = some xs → y.lst? L = some ys → Fin G (RelV2 G pn) W φ L H Q (newL own (xs ++ ys) L) → wpAny (model X.prog X.w) X.A (binaryOp .Add w z) (EP X pins σ Q) X.xe s := fun xs ys e1 e2 f => by
        obtain ⟨a, vs, rfl, la, ra⟩ := RV.lst hR rx e1
        obtain ⟨b, us, rfl, lb, rb⟩ := RV.lst hR ry e2
        obtain ⟨g1, g2⟩ := fin_newL hR f (ra.app rb)
        exact op_catR pins s σ H _ _ w z Q I rv ru ⟨a, b, vs, us, rfl, rfl, la, lb, by rw [← List.length_append]; exact g1, g2⟩
      have gen : (match x.lst? L, y.lst? L with
        | some xs, some ys => newL own (xs ++ ys) L
        | _, _ => .stuck) = (R.stuck : R V2) ∨ ∃ xs ys, x.lst? L = some xs ∧ y.lst? L = some ys := by
        cases e1 : x.lst? L with
        | none => exact .inl rfl
        | some xs =>
          cases e2 : y.lst? L with
          | none => exact .inl rfl
          | some ys => exact .inr ⟨xs, ys, rfl, rfl⟩
      have fin : Fin G (RelV2 G pn) W φ L H Q (match x.lst? L, y.lst? L with
        | some xs, some ys => newL own (xs ++ ys) L
        | _, _ => .stuck) → wpAny (model X.prog X.w) X.A (binaryOp .Add w z) (EP X pins σ Q) X.xe s := fun f => by
        rcases gen with g | ⟨xs, ys, e1, e2⟩
        · rw [g] at f; exact f.elim
        · rw [e1, e2] at f
          exact lists xs ys e1 e2 f
      cases x with
      | val d =>
        cases d with
        | str a =>
          cases y with
          | val d' =>
            cases d' with
            | str b =>
              obtain ⟨rfl, c1, l1⟩ := (show _ = V.str _ ∧ _ from rx)
              obtain ⟨rfl, c2, l2⟩ := (show _ = V.str _ ∧ _ from ry)
              obtain ⟨g1, g2⟩ := fin_newS hR f (fun c hc => (List.mem_append.mp hc).elim (c1 c) (c2 c))
              refine op_add_str pins s σ H _ _ w z Q I rv ru ⟨_, _, rfl, rfl, ?_, ?_⟩
              · simpa [Str.length] using g1
              · rw [str_app]
                exact g2
            | _ => exact fin f
          | ref n => exact fin f
          | exn C fs => exact fin f
        | tup xs =>
          cases y with
          | val d' =>
            cases d' with
            | tup ys =>
              obtain ⟨a, vs, rfl, ta, ra⟩ := rx
              obtain ⟨b, us, rfl, tb, rb⟩ := ry
              obtain ⟨g1, g2⟩ := fin_newT hR f (ra.app rb)
              refine op_catA pins s σ H _ _ w z Q I rv ru ⟨a, b, vs, us, rfl, rfl, by rw [hX]; exact ta.sq, by rw [hX]; exact tb.sq, by rw [← List.length_append]; exact g1, fun e => ?_, fun _ e => ?_, fun _ _ => g2⟩
              · subst e
                have l := ra.len
                have e2 : xs = [] := List.eq_nil_of_length_eq_zero (by simpa using l)
                subst e2
                exact fin_tupKept hR f tb rb
              · subst e
                have l := rb.len
                have e2 : ys = [] := List.eq_nil_of_length_eq_zero (by simpa using l)
                subst e2
                have f' : Fin G (RelV2 G pn) W φ L H Q (newT (xs ++ []) L) := f
                rw [List.append_nil] at f'
                exact fin_tupKept hR f' ta ra
            | _ => exact fin f
          | ref n => exact fin f
          | exn C fs => exact fin f
        | _ => exact fin f
      | ref n => exact fin f
      | exn C fs => exact fin f

theorem binV_ints {W : Nat → List (Nat × D) → List Addr → LH → Hp → Prop} {op : OpB} {own : Bool} {x y : V2} (hop : op ≠ .add) (hop2 : op ≠ .mul) {α : Prop} (f : Fin G (RelV2 G pn) W φ L H Q (binV op own x y L))
    (k : ∀ i j, x.int? = some i → y.int? = some j → Fin G (RelV2 G pn) W φ L H Q (binInt op i j L) → α) : α := by
  unfold binV at f
  cases ei : x.int? with
  | some i =>
    cases ej : y.int? with
    | some j =>
      simp only [ei, ej] at f
      exact k i j ei ej f
    | none =>
      exfalso
      simp only [ei, ej] at f
      cases op <;> first | exact hop rfl | exact hop2 rfl | exact f.elim
  | none =>
    exfalso
    cases ej : y.int? with
    | some j =>
      simp only [ei, ej] at f
      cases op <;> first | exact hop rfl | exact hop2 rfl | exact f.elim
    | none =>
      simp only [ei, ej] at f
      cases op <;> first | exact hop rfl | exact hop2 rfl | exact f.elim
/-- an operator that Python has -/
def OpB.py : OpB → Operator
  | .add => .Add
  | .sub => .Sub
  | .mul => .Mult
  | .fdiv => .FloorDiv
  | .mod => .Mod
  | .pow => .Pow
  | .shl => .LShift
  | .shr => .RShift
  | .band => .BitAnd
  | .bor => .BitOr
theorem ok_int (own : Bool) (op : OpB) (hop : op ≠ .add) (hop2 : op ≠ .mul) : OpR X (binaryOp op.py) (rd2 G pn (binV op own)) := by
  intro pins s σ H v u w z Q I rv ru h
  obtain ⟨W, φ, L, x, y, hR, rx, ry, f⟩ := h
  refine binV_ints hop hop2 f fun i j ei ej f => ?_
  obtain ⟨rfl, _⟩ := RV.int rx ei
  obtain ⟨rfl, _⟩ := RV.int ry ej
  have step : ∀ {c : Prop} [Decidable c] {r : Int}, Fin G (RelV2 G pn) W φ L H Q (if c then .ok (.val (.int r)) L else .stuck) → c ∧ Q (.int r) H := fun {c} _ {r} f => by
    by_cases hc : c
    · rw [if_pos hc] at f
      exact ⟨hc, fin_val hR f rfl⟩
    · rw [if_neg hc] at f
      exact f.elim
  cases op with
  | add => exact absurd rfl hop
  | mul => exact absurd rfl hop2
  | sub => exact op_sub pins s σ H _ _ w z Q I rv ru ⟨i, j, rfl, rfl, fin_val hR f rfl⟩
  | fdiv =>
    obtain ⟨hc, q⟩ := step f
    exact op_fdiv pins s σ H _ _ w z Q I rv ru ⟨i, j, rfl, rfl, hc, q⟩
  | mod =>
    obtain ⟨hc, q⟩ := step f
    exact op_mod pins s σ H _ _ w z Q I rv ru ⟨i, j, rfl, rfl, hc, q⟩
  | pow =>
    obtain ⟨hc, q⟩ := step f
    simp only [powOk, Bool.and_eq_true, decide_eq_true_eq] at hc
    exact op_pow pins s σ H _ _ w z Q I rv ru ⟨i, j, rfl, rfl, ⟨hc.1.1, hc.1.2, hc.2⟩, q⟩
  | shl =>
    obtain ⟨hc, q⟩ := step f
    simp only [powOk, Bool.and_eq_true, decide_eq_true_eq] at hc
    exact op_shl pins s σ H _ _ w z Q I rv ru ⟨i, j, rfl, rfl, ⟨hc.1.1, hc.1.2, hc.2⟩, q⟩
  | shr =>
    obtain ⟨hc, q⟩ := step f
    exact op_shr pins s σ H _ _ w z Q I rv ru ⟨i, j, rfl, rfl, hc, q⟩
  | band => exact f.elim
  | bor => exact f.elim
theorem ok_mul (own : Bool) : OpR X (binaryOp .Mult) (rd2 G pn (binV .mul own)) := by
  intro pins s σ H v u w z Q I rv ru h
  obtain ⟨W, φ, L, x, y, hR, rx, ry, f⟩ := h
  unfold binV at f
  cases ei : x.int? with
  | some i =>
    cases ej : y.int? with
    | some j =>
      simp only [ei, ej, binInt] at f
      obtain ⟨rfl, _⟩ := RV.int rx ei
      obtain ⟨rfl, _⟩ := RV.int ry ej
      by_cases hc : mulOk i j = true
      · rw [if_pos hc] at f
        simp only [mulOk, Bool.or_eq_true, Bool.and_eq_true, decide_eq_true_eq] at hc
        exact op_mul pins s σ H _ _ w z Q I rv ru ⟨i, j, rfl, rfl, hc, fin_val hR f rfl⟩
      · rw [if_neg hc] at f
        exact f.elim
    | none =>
      simp only [ei, ej] at f
      exact f.elim
  | none =>
    cases ej : y.int? with
    | none =>
      simp only [ei, ej] at f
      exact f.elim
    | some k =>
      simp only [ei, ej] at f
      obtain ⟨rfl, _⟩ := RV.int ry ej
      have lists : Fin G (RelV2 G pn) W φ L H Q (match x.lst? L with
          | some xs => if (kOk k && decide (xs.length * k.toNat ≤ lim)) = true then newL own (rep xs k) L else .stuck
          | none => .stuck) → wpAny (model X.prog X.w) X.A (binaryOp .Mult w z) (EP X pins σ Q) X.xe s := fun f => by
        cases e1 : x.lst? L with
        | none =>
          rw [e1] at f
          exact f.elim
        | some xs =>
          simp only [e1] at f
          by_cases hc : (kOk k && decide (xs.length * k.toNat ≤ lim)) = true
          · rw [if_pos hc] at f
            simp only [kOk, Bool.and_eq_true, decide_eq_true_eq] at hc
            obtain ⟨a, vs, rfl, la, ra⟩ := RV.lst hR rx e1
            obtain ⟨g1, g2⟩ := fin_newL hR f (ra.repl k.toNat)
            exact op_repR pins s σ H _ _ w z Q I rv ru ⟨a, k, vs, rfl, rfl, la, hc.1.1, hc.1.2, by rw [← ra.len, ← lim_eq]; exact hc.2, g2⟩
          · rw [if_neg hc] at f
            exact f.elim
      cases x with
      | val d =>
        cases d with
        | str a =>
          obtain ⟨rfl, c1, l1⟩ := (show _ = V.str _ ∧ _ from rx)
          by_cases hc : kOk k = true
          · simp only [hc, if_true] at f
            simp only [kOk, Bool.and_eq_true, decide_eq_true_eq] at hc
            obtain ⟨g1, g2⟩ := fin_newS hR f (fun c hm => by
              unfold rep at hm
              obtain ⟨l, hl, hm⟩ := List.mem_flatten.mp hm
              rw [(List.mem_replicate.mp hl).2] at hm
              exact c1 c hm)
            exact op_mulStr pins s σ H _ _ w z Q I rv ru ⟨a, k, rfl, rfl, hc.1, hc.2, g1, g2⟩
          · simp only [hc] at f
            exact f.elim
        | _ => exact lists f
      | ref n => exact lists f
      | exn C fs => exact lists f
end
end PI

set_option maxRecDepth 100000
set_option maxHeartbeats 1000000
namespace PI
open PySem PySem.Spec PyProof.Rows L2
theorem fa1 {a b : Bool} (h : (a && b) = true) : a = true := (Bool.and_eq_true_iff.mp h).1
theorem fa2 {a b : Bool} (h : (a && b) = true) : b = true := (Bool.and_eq_true_iff.mp h).2
/-- data that may be ordered is no dict, no bool -/
theorem lex_at : ∀ (xs ys : List D) (i : Nat) (e r : Nat → Bool), (∀ j x y, xs[j]? = some x → ys[j]? = some y → e (i + j) = x.eqv y ∧ r (i + j) = x.ltb y) →
    Ob.lexAt e r (decide (xs.length < ys.length)) i (min xs.length ys.length) = D.ltbs xs ys
  | [], [], i, e, r, h => rfl
  | [], _ :: _, i, e, r, h => by simp [Ob.lexAt, D.ltbs]
  | _ :: _, [], i, e, r, h => by simp [Ob.lexAt, D.ltbs]
  | x :: xs, y :: ys, i, e, r, h => by
    obtain ⟨h1, h2⟩ := h 0 x y rfl rfl
    have ih := lex_at xs ys (i + 1) e r fun j a b ha hb => by
      have := h (j + 1) a b (by simpa using ha) (by simpa using hb)
      rw [show i + 1 + j = i + (j + 1) by omega]
      exact this
    have e1 : min (x :: xs).length (y :: ys).length = min xs.length ys.length + 1 := by simp only [List.length_cons]; omega
    have e2 : decide ((x :: xs).length < (y :: ys).length) = decide (xs.length < ys.length) := by simp
    rw [e1, e2, Ob.lexAt_succ, ih, D.ltbs]
    rw [Nat.add_zero] at h1 h2
    rw [h1, h2]
end PI

set_option maxRecDepth 100000
set_option maxHeartbeats 1000000
namespace PI
open PySem PySem.Spec PyProof.Rows L2
/-- the key of a datum -/
def kOf : D → Key
  | .int i => .inl i
  | .str s => .inr ⟨s.toArray⟩
  | _ => .inl 0
theorem rk_of {k : D} {z : Key} (h : RK k z) : keyOk k = true ∧ z = kOf k := by
  cases k <;> first | exact ⟨rfl, h⟩ | exact ⟨rfl, h.1⟩ | exact h.elim
theorem kOf_eq {a b : D} (ha : keyOk a = true) (hb : keyOk b = true) : decide (kOf a = kOf b) = a.eqv b := by
  cases a <;> first | (simp [keyOk] at ha; done) | skip
  · cases b <;> first | (simp [keyOk] at hb; done) | skip
    · rename_i i j
      simp [kOf, D.eqv]
      rfl
    · simp [kOf, D.eqv]
  · cases b <;> first | (simp [keyOk] at hb; done) | skip
    · simp [kOf, D.eqv]
    · rename_i s t
      simp only [kOf, D.eqv, Sum.inr.injEq, Str.mk.injEq]
      by_cases e : s = t
      · subst e; simp
      · have h1 : (s == t) = false := by simpa using e
        rw [h1]
        exact decide_eq_false fun z => e (by simpa using z)
section
variable {G : Gd} {O : Addr → Prop} {H : Hp}
theorem RDk.len : ∀ {kvs : List (D × D)} {ks : List (Key × V)}, RDk G O H kvs ks → kvs.length = ks.length
  | [], _, h => by cases (show _ = [] from h); rfl
  | (k, x) :: r, _, h => by
    obtain ⟨z, v, q, rfl, _, _, h2⟩ := h
    simp [RDk.len h2]
theorem RDk.get {x : D} (hx : keyOk x = true) : ∀ {kvs : List (D × D)} {ks : List (Key × V)}, RDk G O H kvs ks → (valV ks (kOf x)).isSome = dictHas kvs x ∧ ∀ d, dictGet kvs x = some d → ∃ v, valV ks (kOf x) = some v ∧ RD G O H d v
  | [], _, h => by
    cases (show _ = [] from h)
    exact ⟨rfl, fun d e => by cases e⟩
  | (k, y) :: r, _, h => by
    obtain ⟨z, v, q, rfl, hk, h1, h2⟩ := h
    obtain ⟨ok, rfl⟩ := rk_of hk
    obtain ⟨i1, i2⟩ := RDk.get hx h2
    have e := kOf_eq ok hx
    cases c : k.eqv x with
    | true =>
      rw [c] at e
      rw [valV_pos (of_decide_eq_true e)]
      refine ⟨by simp [dictHas, c], fun d hd => ?_⟩
      simp [dictGet, c] at hd
      subst hd
      exact ⟨v, rfl, h1⟩
    | false =>
      rw [c] at e
      rw [valV_neg (of_decide_eq_false e)]
      refine ⟨by simp [dictHas, c, i1], fun d hd => ?_⟩
      simp [dictGet, c] at hd
      exact i2 d hd
theorem RDk.any {x : D} (hx : keyOk x = true) : ∀ {kvs : List (D × D)} {ks : List (Key × V)}, RDk G O H kvs ks → (ks.any fun kv => decide (kv.1 = kOf x)) = dictHas kvs x
  | [], _, h => by cases (show _ = [] from h); rfl
  | (k, y) :: r, _, h => by
    obtain ⟨z, v, q, rfl, hk, h1, h2⟩ := h
    obtain ⟨ok, rfl⟩ := rk_of hk
    simp only [List.any_cons, dictHas, RDk.any hx h2, kOf_eq ok hx]
theorem RDk.app : ∀ {kvs : List (D × D)} {ks : List (Key × V)} {x y : D} {z : Key} {v : V}, RDk G O H kvs ks → RK x z → RD G O H y v → RDk G O H (kvs ++ [(x, y)]) (ks ++ [(z, v)])
  | [], _, x, y, z, v, h, hk, hv => by
    cases (show _ = [] from h)
    exact ⟨z, v, [], rfl, hk, hv, rfl⟩
  | (k, u) :: r, _, x, y, z, v, h, hk, hv => by
    obtain ⟨z', v', q, rfl, hk', h1, h2⟩ := h
    exact ⟨z', v', _, rfl, hk', h1, RDk.app h2 hk hv⟩
theorem RDk.upd {x y : D} {v : V} (hx : keyOk x = true) (hv : RD G O H y v) : ∀ {kvs : List (D × D)} {ks : List (Key × V)}, RDk G O H kvs ks → RDk G O H (kvs.map fun p => if p.1.eqv x = true then (p.1, y) else p) (ks.map fun kv => if kv.1 = kOf x then (kv.1, v) else kv)
  | [], _, h => by cases (show _ = [] from h); rfl
  | (k, u) :: r, _, h => by
    obtain ⟨z', v', q, rfl, hk', h1, h2⟩ := h
    have ih := RDk.upd hx hv h2
    obtain ⟨ok, rfl⟩ := rk_of hk'
    have e := kOf_eq ok hx
    cases c : k.eqv x with
    | true =>
      rw [c] at e
      have e' := of_decide_eq_true e
      have e2 : ((k, u) :: r).map (fun p => if p.1.eqv x = true then (p.1, y) else p) = (k, y) :: r.map (fun p => if p.1.eqv x = true then (p.1, y) else p) := by
        rw [List.map_cons]
        exact congrArg (· :: _) (if_pos c)
      rw [e2]
      exact ⟨kOf k, v, _, by simp [e'], hk', hv, ih⟩
    | false =>
      rw [c] at e
      have e' := of_decide_eq_false e
      have e2 : ((k, u) :: r).map (fun p => if p.1.eqv x = true then (p.1, y) else p) = (k, u) :: r.map (fun p => if p.1.eqv x = true then (p.1, y) else p) := by
        rw [List.map_cons]
        exact congrArg (· :: _) (if_neg (by rw [c]; decide))
      rw [e2]
      exact ⟨kOf k, v', _, by simp [e'], hk', h1, ih⟩
theorem RDk.put {x y : D} {v : V} (hk : RK x (kOf x)) (hv : RD G O H y v) {kvs : List (D × D)} {ks : List (Key × V)} (h : RDk G O H kvs ks) : RDk G O H (dictPut kvs x y) (putK ks (kOf x) v) := by
  have hx := (rk_of hk).1
  unfold dictPut putK
  rw [RDk.any hx h]
  by_cases c : dictHas kvs x = true
  · rw [if_pos c, if_pos c]
    exact RDk.upd hx hv h
  · rw [if_neg c, if_neg c]
    exact RDk.app h hk hv
end
section
variable {G : Gd} {pn : Pn} {φ : List Addr} {L : LH} {H : Hp} {Q : VK} {X : Cx}
theorem RV.dct (h : HR G φ L H) {x : V2} {v : V} {kvs : List (D × D)} (r : RV G pn φ (Own G φ L) H x v) (e : x.dct? L = some kvs) : ∃ a ks, v = .ref a ∧ H a = some (.dK ks) ∧ RDk G (Own G φ L) H kvs ks := by
  cases x with
  | val d =>
    cases d with
    | dct ys =>
      simp [V2.dct?] at e
      subst e
      obtain ⟨a, ks, e, t, q⟩ := r
      exact ⟨a, ks, e, t.1, q⟩
    | _ => simp [V2.dct?] at e
  | ref n =>
    obtain ⟨a, rfl, ha⟩ := r
    cases hn : L[n]? with
    | none => simp [V2.dct?, hn] at e
    | some o =>
      cases o with
      | dct ys =>
        simp [V2.dct?, hn] at e
        subst e
        obtain ⟨ks, q1, q2⟩ := h.at_ n _ a hn ha
        exact ⟨a, ks, rfl, q1, q2⟩
      | _ => simp [V2.dct?, hn] at e
  | exn C fs => simp [V2.dct?] at e
/-- a key as a value -/
theorem rk_rd {O : Addr → Prop} {d : D} {v : V} (r : RD G O H d v) (k : keyOk d = true) : v = kV (kOf d) ∧ RK d (kOf d) := by
  cases d <;> first | (simp [keyOk] at k; done) | skip
  · exact ⟨r, rfl⟩
  · exact ⟨r.1, rfl, r.2⟩
theorem view_key {x : V2} {a : D} (e : x.view L = some a) (k : keyOk a = true) : x = .val a := by
  cases x with
  | val d => simp [V2.view] at e; rw [e]
  | ref n =>
    simp only [V2.view] at e
    split at e
    · cases e; simp [keyOk] at k
    · cases e
  | exn C fs => simp [V2.view] at e
theorem in_dict (hX : X.K = G.K) (hu : X.A.units + 1 < cLine) {pins : List (Addr × Obj)} {σ : L2.St} {s : Shared} (I : Inv X pins σ H s) (hR : HR G φ L H) {x y : V2} {v u : V} {w z : Value} (rx : RV G pn φ (Own G φ L) H x v) (ry : RV G pn φ (Own G φ L) H y u) (rv : RelV v w) (ru : RelV u z)
    {a : D} {kvs : List (D × D)} (ex : x.view L = some a) (ey : y.dct? L = some kvs) (hk : keyOk a = true) (neg : Bool) {Q' : Value → Shared → Prop} (q : ∀ s', Inv X pins σ H s' → Q' (.bool (if neg then !dictHas kvs a else dictHas kvs a)) s') :
    wpAny (model X.prog X.w) X.A (compareOp (if neg then .NotIn else .In) w z) Q' X.xe s := by
  obtain ⟨b, ks, rfl, hH, rk⟩ := RV.dct hR ry ey
  cases (show z = Value.ref b from ru)
  have ex' := view_key ex hk
  subst ex'
  obtain ⟨rfl, hK⟩ := rk_rd rx hk
  have g := DGet.k (k := kOf a) hH
  have e := (RDk.get hk rk).1
  cases neg with
  | false => exact d_in hu I g rv fun s' I' => by rw [e]; exact q s' I'
  | true => exact d_notIn hu I g rv fun s' I' => by rw [e]; exact q s' I'
/-- d[k], by the machine's tail -/
theorem tail_any {prog : Program} {w : World} {A : Around} {E : Value → Shared → Prop} {s : Shared} {value slice : Expr} {o i : Value} {T id : String} {Q : Value → Shared → Prop} (hT : s.TypeIs o T) (hl : typeLookup (.type T) "__getitem__" = pure (some (.builtin id)))
    (hs : subscripted slice false o i = operate [o, i] (getItem o i)) (h : wpAny (model prog w) A (getItem o i) Q E s) : wpAny (model prog w) A (subscriptTail value slice o i) Q E s := by
  unfold subscriptTail; refine wpAny_bind ?_; rw [getitemInPython_of_ne hT.not_modules]; refine wpAny_bind (wpAny_specialOf hT hl ?_)
  have go : wpAny (model prog w) A (subscripted slice false o i) (fun r s3 => wpAny (model prog w) A (do letTemporaryGo value o r; pure r) Q E s3) E s := by rw [hs]; exact wpAny_operating (wpAny_mono h (fun r s3 h3 => wpAny_bind (wpAny_letTemporaryGo (wpAny_pure h3))) fun _ _ x => x)
  first | exact wpAny_pure (wpAny_bind go) | exact wpAny_bind (wpAny_pure (wpAny_bind go)) | exact wpAny_bind go
end
end PI

set_option maxRecDepth 100000
set_option maxHeartbeats 1000000
namespace PI
open PySem PySem.Spec PyProof.Rows L2

mutual
theorem eqv_py : ∀ a b : D, okd' a = true → okd' b = true → PyData.eqv a.py b.py = a.eqv b
  | .non, b, _, h => by cases b <;> first | (simp [D.py, PyData.eqv, D.eqv]; done) | (simp [okd'] at h)
  | .bl x, b, _, h => by cases b <;> first | (simp [D.py, PyData.eqv, D.eqv]; done) | (simp [okd'] at h)
  | .int x, b, _, h => by cases b <;> first | (simp [D.py, PyData.eqv, D.eqv]; done) | (simp [okd'] at h)
  | .str x, b, _, h => by
    cases b with
    | str y =>
      simp only [D.py, PyData.eqv, D.eqv]
      by_cases e : x = y
      · subst e; simp
      · have h1 : (x == y) = false := by simpa using e
        rw [h1]
        have : ¬ ((⟨x.toArray⟩ : Str) = ⟨y.toArray⟩) := fun z => e (by injection z with z; simpa using z)
        simpa using this
    | _ => first | (simp [D.py, PyData.eqv, D.eqv]; done) | (simp [okd'] at h)
  | .tup xs, b, h1, h2 => by
    cases b with
    | tup ys =>
      simp only [D.py, PyData.eqv, D.eqv]
      exact eqvs_py xs ys h1 h2
    | _ => first | (simp [D.py, PyData.eqv, D.eqv]; done) | (simp [okd'] at h2)
  | .lst xs, b, h1, h2 => by
    cases b with
    | lst ys =>
      simp only [D.py, PyData.eqv, D.eqv]
      exact eqvs_py xs ys h1 h2
    | _ => first | (simp [D.py, PyData.eqv, D.eqv]; done) | (simp [okd'] at h2)
  | .dct _, b, h, _ => by simp [okd'] at h
  | .ins _ _, b, h, _ => by simp [okd'] at h
theorem eqvs_py : ∀ a b : List D, okds' a = true → okds' b = true → PyData.eqvAll (D.pys a) (D.pys b) = D.eqvs a b
  | [], [], _, _ => rfl
  | [], y :: ys, _, _ => rfl
  | x :: xs, [], _, _ => rfl
  | x :: xs, y :: ys, h1, h2 => by
    simp only [okds', Bool.and_eq_true] at h1 h2
    simp only [D.pys, PyData.eqvAll, D.eqvs]
    rw [eqv_py x y h1.1 h2.1, eqvs_py xs ys h1.2 h2.2]
end
mutual
theorem okd_plain : ∀ (n : Nat) (d : D), D.okd n d = true → okd' d = true
  | _, .non, _ => rfl
  | _, .bl _, _ => rfl
  | _, .int _, _ => rfl
  | _, .str _, _ => rfl
  | 0, .tup _, h => by simp [D.okd] at h
  | 0, .lst _, h => by simp [D.okd] at h
  | n + 1, .tup xs, h => okds_plain n xs (by simpa [D.okd] using h)
  | n + 1, .lst xs, h => okds_plain n xs (by simpa [D.okd] using h)
  | _, .dct _, h => by simp [D.okd] at h
  | _, .ins _ _, h => by simp [D.okd] at h
theorem okds_plain : ∀ (n : Nat) (ds : List D), D.okds n ds = true → okds' ds = true
  | _, [], _ => rfl
  | n, x :: xs, h => by
    simp only [D.okds, Bool.and_eq_true] at h
    simp only [okds', Bool.and_eq_true]
    exact ⟨okd_plain n x h.1, okds_plain n xs h.2⟩
end
theorem okds_at : ∀ {xs : List D} {j : Nat} {x : D}, okds' xs = true → xs[j]? = some x → okd' x = true
  | [], _, _, _, h => by simp at h
  | y :: ys, 0, x, k, h => by
    simp only [okds', Bool.and_eq_true] at k
    cases h
    exact k.1
  | y :: ys, j + 1, x, k, h => by
    simp only [okds', Bool.and_eq_true] at k
    exact okds_at k.2 (by simpa using h)
theorem pys_at : ∀ {xs : List D} {j : Nat} {x : D}, xs[j]? = some x → (D.pys xs).getD j .none = x.py
  | [], _, _, h => by simp at h
  | y :: ys, 0, x, h => by cases h; rfl
  | y :: ys, j + 1, x, h => by
    have := pys_at (xs := ys) (j := j) (x := x) (by simpa using h)
    simpa [D.pys, List.getD_eq_getElem?_getD] using this
theorem rall_len {h : Heap} : ∀ {vs : List Value} {xs : List D} {as : List Addr}, ReadsAll h vs (D.pys xs) as → vs.length = xs.length
  | vs, [], as, r => by cases r; rfl
  | vs, x :: xs, as, r => by
    simp only [D.pys] at r
    cases r with
    | cons r1 r2 => simp [rall_len r2]
mutual
theorem okd_depth : ∀ (n : Nat) (d : D), D.okd n d = true → d.py.depth ≤ n
  | _, .non, _ => by simp [D.py, PyData.depth]
  | _, .bl _, _ => by simp [D.py, PyData.depth]
  | _, .int _, _ => by simp [D.py, PyData.depth]
  | _, .str _, _ => by simp [D.py, PyData.depth]
  | 0, .tup _, h => by simp [D.okd] at h
  | 0, .lst _, h => by simp [D.okd] at h
  | n + 1, .tup xs, h => by
    have := okds_depth n xs (by simpa [D.okd] using h)
    simp only [D.py, PyData.depth]
    omega
  | n + 1, .lst xs, h => by
    have := okds_depth n xs (by simpa [D.okd] using h)
    simp only [D.py, PyData.depth]
    omega
  | _, .dct _, h => by simp [D.okd] at h
  | _, .ins _ _, h => by simp [D.okd] at h
theorem okds_depth : ∀ (n : Nat) (ds : List D), D.okds n ds = true → PyData.depthAll (D.pys ds) ≤ n
  | _, [], _ => by simp [D.pys, PyData.depthAll]
  | n, x :: xs, h => by
    simp only [D.okds, Bool.and_eq_true] at h
    have h1 := okd_depth n x h.1
    have h2 := okds_depth n xs h.2
    simp only [D.pys, PyData.depthAll]
    omega
end
mutual
theorem rcLt_reads : ∀ (n : Nat) (a b : D) (A : Around) (s : Shared) (u v : Value) (as bs : List Addr), Reads s.heap u a.py as → Reads s.heap v b.py bs → a.cmpb b = true → D.okd n a = true → D.okd n b = true → a.py.canLay0 = true → b.py.canLay0 = true → A.units + n < cLine → Ob.RcOp .Lt A s u v (a.ltb b)
  | n, .int i, b, A, s, u, v, as, bs, ra, rb, hc, ka, kb, la, lb, hu => by
    cases b <;> first | (simp [D.cmpb] at hc; done) | skip
    cases ra
    cases rb
    exact Ob.RcOp.lt_int _ _ _ _
  | n, .str x, b, A, s, u, v, as, bs, ra, rb, hc, ka, kb, la, lb, hu => by
    cases b <;> first | (simp [D.cmpb] at hc; done) | skip
    cases ra
    cases rb
    exact fun prog w E Q h => lt_str h
  | 0, .tup xs, b, A, s, u, v, as, bs, ra, rb, hc, ka, kb, la, lb, hu => by simp [D.okd] at ka
  | n + 1, .tup xs, b, A, s, u, v, as, bs, ra, rb, hc, ka, kb, la, lb, hu => by
    cases b <;> first | (simp [D.cmpb] at hc; done) | skip
    rename_i ys
    simp only [D.py] at ra rb
    cases ra with
    | tuple g1 g2 g3 g4 =>
      cases rb with
      | tuple k1 k2 k3 k4 =>
        rename_i l o vs m b' o' vs' m'
        have ka' : D.okds n xs = true := by simpa [D.okd] using ka
        have kb' : D.okds n ys = true := by simpa [D.okd] using kb
        have la' : PyData.canLayAll0 (D.pys xs) = true := by simpa [D.py, PyData.canLay0] using la
        have lb' : PyData.canLayAll0 (D.pys ys) = true := by simpa [D.py, PyData.canLay0] using lb
        have d1 := okds_depth n xs ka'
        have d2 := okds_depth n ys kb'
        have l1 : vs.toList.length = xs.length := rall_len g4
        have l2 : vs'.toList.length = ys.length := rall_len k4
        rw [Array.length_toList] at l1 l2
        have q := Ob.RcOp.tuples_lt (A := A) (s := s) (e := fun j => SeqAt.pairEq (D.pys xs) (D.pys ys) j) (r := fun j => (xs.getD j .non).ltb (ys.getD j .non)) ⟨o, g1, g2, m, g3⟩ ⟨o', k1, k2, m', k3⟩ (by omega)
          (fun j h1 h2 => by
            have := SeqAt.eqAt_readsAll (D.pys xs) (D.pys ys) A.in1 s vs.toList vs'.toList _ _ g4 k4 la' lb' (by show A.units + 1 + _ < _; omega) j (by simpa using h1) (by simpa using h2)
            simpa using this)
          (fun j h1 h2 _ => by
            have := rcLts_reads n xs ys A.in1 s vs.toList vs'.toList _ _ g4 k4 hc ka' kb' la' lb' (by show A.units + 1 + _ < _; omega) j (by simpa using h1) (by simpa using h2)
            simpa using this)
        have e : Ob.lexAt (fun j => SeqAt.pairEq (D.pys xs) (D.pys ys) j) (fun j => (xs.getD j .non).ltb (ys.getD j .non)) (decide (vs.size < vs'.size)) 0 (min vs.size vs'.size) = (D.tup xs).ltb (.tup ys) := by
          rw [l1, l2]
          refine lex_at xs ys 0 _ _ fun j x y hx hy => ?_
          rw [Nat.zero_add]
          refine ⟨?_, by simp [List.getD_eq_getElem?_getD, hx, hy]⟩
          show PyData.eqv ((D.pys xs).getD j .none) ((D.pys ys).getD j .none) = _
          rw [pys_at hx, pys_at hy]
          exact eqv_py x y (okds_at (okds_plain n xs ka') hx) (okds_at (okds_plain n ys kb') hy)
        rw [e] at q
        exact q
  | n, .non, b, A, s, u, v, as, bs, ra, rb, hc, ka, kb, la, lb, hu => by simp [D.cmpb] at hc
  | n, .bl _, b, A, s, u, v, as, bs, ra, rb, hc, ka, kb, la, lb, hu => by simp [D.cmpb] at hc
  | n, .lst _, b, A, s, u, v, as, bs, ra, rb, hc, ka, kb, la, lb, hu => by simp [D.cmpb] at hc
  | n, .dct _, b, A, s, u, v, as, bs, ra, rb, hc, ka, kb, la, lb, hu => by simp [D.cmpb] at hc
  | n, .ins _ _, b, A, s, u, v, as, bs, ra, rb, hc, ka, kb, la, lb, hu => by simp [D.cmpb] at hc
theorem rcLts_reads : ∀ (n : Nat) (xs ys : List D) (A : Around) (s : Shared) (vs ws : List Value) (as bs : List Addr), ReadsAll s.heap vs (D.pys xs) as → ReadsAll s.heap ws (D.pys ys) bs → D.cmpbs xs ys = true → D.okds n xs = true → D.okds n ys = true → PyData.canLayAll0 (D.pys xs) = true → PyData.canLayAll0 (D.pys ys) = true → A.units + n < cLine →
    ∀ j (h1 : j < vs.length) (h2 : j < ws.length), Ob.RcOp .Lt A s vs[j] ws[j] ((xs.getD j .non).ltb (ys.getD j .non))
  | n, [], ys, A, s, vs, ws, as, bs, ra, rb, hc, ka, kb, la, lb, hu, j, h1, h2 => by cases ra; exact absurd h1 (Nat.not_lt_zero _)
  | n, x :: xs, [], A, s, vs, ws, as, bs, ra, rb, hc, ka, kb, la, lb, hu, j, h1, h2 => by cases rb; exact absurd h2 (Nat.not_lt_zero _)
  | n, x :: xs, y :: ys, A, s, vs, ws, as, bs, ra, rb, hc, ka, kb, la, lb, hu, j, h1, h2 => by
    simp only [D.pys] at ra rb la lb
    simp only [D.cmpbs, D.okds, Bool.and_eq_true] at hc ka kb
    have la' : x.py.canLay0 = true ∧ PyData.canLayAll0 (D.pys xs) = true := by simpa [PyData.canLayAll0] using la
    have lb' : y.py.canLay0 = true ∧ PyData.canLayAll0 (D.pys ys) = true := by simpa [PyData.canLayAll0] using lb
    cases ra with
    | cons r rs =>
      cases rb with
      | cons r' rs' =>
        cases j with
        | zero => exact rcLt_reads n x y A s _ _ _ _ r r' hc.1 ka.1 kb.1 la'.1 lb'.1 hu
        | succ j => exact rcLts_reads n xs ys A s _ _ _ _ rs rs' hc.2 ka.2 kb.2 la'.2 lb'.2 hu j (Nat.lt_of_succ_lt_succ h1) (Nat.lt_of_succ_lt_succ h2)
end
section
variable {G : Gd} {O : Addr → Prop} {H : Hp}
theorem strOk_of {s : List Nat} (h : ∀ c ∈ s, c < 0x110000) : PyData.strOk ⟨s.toArray⟩ = true := by
  unfold PyData.strOk
  simpa using h
mutual
theorem RD.lay : ∀ (d : D) (v : V), RD G O H d v → okd' d = true → d.py.canLay0 = true
  | .non, _, _, _ => by simp [D.py, PyData.canLay0]
  | .bl _, _, _, _ => by simp [D.py, PyData.canLay0]
  | .int _, _, _, _ => by simp [D.py, PyData.canLay0]
  | .str s, _, h, _ => by
    obtain ⟨_, hc, _⟩ := h
    simp only [D.py, PyData.canLay0]
    exact strOk_of hc
  | .tup xs, _, h, k => by
    obtain ⟨a, vs, _, _, r⟩ := h
    simp only [D.py, PyData.canLay0]
    exact RDs.lay xs vs r k
  | .lst xs, _, h, k => by
    obtain ⟨a, vs, _, _, r⟩ := h
    simp only [D.py, PyData.canLay0]
    exact RDs.lay xs vs r k
  | .dct _, _, _, k => by simp [okd'] at k
  | .ins _ _, _, _, k => by simp [okd'] at k
theorem RDs.lay : ∀ (ds : List D) (vs : List V), RDs G O H ds vs → okds' ds = true → PyData.canLayAll0 (D.pys ds) = true
  | [], _, _, _ => rfl
  | x :: xs, _, h, k => by
    obtain ⟨v, r, _, h1, h2⟩ := h
    simp only [okds', Bool.and_eq_true] at k
    simp only [D.pys, PyData.canLayAll0, Bool.and_eq_true]
    exact ⟨RD.lay x v h1 k.1, RDs.lay xs r h2 k.2⟩
end
mutual
theorem RD.dp : ∀ (d : D) (v : V), RD G O H d v → okd' d = true → Dp G.K H v d.py
  | .non, _, h, _ => by cases (show _ = V.non from h); exact .non
  | .bl b, _, h, _ => by cases (show _ = V.bl b from h); exact .bl b
  | .int i, _, h, _ => by cases (show _ = V.int i from h); exact .int i
  | .str s, _, h, _ => by
    obtain ⟨e, _, _⟩ := h
    subst e
    exact .str _
  | .tup xs, _, h, k => by
    obtain ⟨a, vs, e, t, r⟩ := h
    subst e
    exact .tup t.sq (RDs.dp xs vs r k)
  | .lst xs, _, h, k => by
    obtain ⟨a, vs, e, t, r⟩ := h
    subst e
    exact .lst t.sq (RDs.dp xs vs r k)
  | .dct _, _, _, k => by simp [okd'] at k
  | .ins _ _, _, _, k => by simp [okd'] at k
theorem RDs.dp : ∀ (ds : List D) (vs : List V), RDs G O H ds vs → okds' ds = true → DpAll G.K H vs (D.pys ds)
  | [], _, h, _ => by cases (show _ = [] from h); exact .nil
  | x :: xs, _, h, k => by
    obtain ⟨v, r, e, h1, h2⟩ := h
    subst e
    simp only [okds', Bool.and_eq_true] at k
    exact .cons (RD.dp x v h1 k.1) (RDs.dp xs r h2 k.2)
end
end
section
variable {G : Gd} {pn : Pn} {φ : List Addr} {L : LH} {H : Hp} {Q : VK} {X : Cx}
/-- a value seen as data -/
theorem RV.view (h : HR G φ L H) {x : V2} {v : V} {d : D} (r : RV G pn φ (Own G φ L) H x v) (e : x.view L = some d) (k : okd d = true) : Dp G.K H v d.py ∧ SeqAt.shaped d.py = true := by
  have pl := okd_plain 60 d k
  have dep := okd_depth 60 d k
  have sh : d.py.canLay0 = true → SeqAt.shaped d.py = true := fun z => by
    show (d.py.canLay0 && decide (d.py.depth ≤ 64)) = true
    rw [z, decide_eq_true (by omega)]
    rfl
  cases x with
  | val d' =>
    simp [V2.view] at e
    subst e
    exact ⟨RD.dp _ v r pl, sh (RD.lay _ v r pl)⟩
  | ref n =>
    cases hn : L[n]? with
    | none => simp [V2.view, hn] at e
    | some o =>
      cases o with
      | lst xs =>
        simp [V2.view, hn] at e
        subst e
        obtain ⟨a, vs, rfl, _, ha, rs⟩ := RV.own h r hn
        have pl' : okds' xs = true := pl
        refine ⟨.lst (SqL.of ha) (RDs.dp xs vs rs pl'), sh ?_⟩
        simp only [D.py, PyData.canLay0]
        exact RDs.lay xs vs rs pl'
      | _ => simp [V2.view, hn] at e
  | exn C fs => simp [V2.view] at e

theorem ok_eq (hX : X.K = G.K) (hu : X.A.units + 64 < cLine) : OpR X (compareOp .Eq) (rd2 G pn (cmpR .eq)) := by
  intro pins s σ H v u w z Q I rv ru h
  obtain ⟨W, φ, L, x, y, hR, rx, ry, f⟩ := h
  unfold cmpR cmpV cmpEq at f
  cases ex : x.view L with
  | none => simp only [ex] at f; exact f.elim
  | some a =>
    cases ey : y.view L with
    | none => simp only [ex, ey] at f; exact f.elim
    | some b =>
      simp only [ex, ey] at f
      by_cases k : (okd a && okd b) = true
      · rw [if_pos k] at f
        obtain ⟨k1, k2⟩ := Bool.and_eq_true_iff.mp k
        obtain ⟨d1, s1⟩ := RV.view hR rx ex k1
        obtain ⟨d2, s2⟩ := RV.view hR ry ey k2
        refine op_eqD hu pins s σ H v u w z Q I rv ru ⟨_, _, by rw [hX]; exact d1, by rw [hX]; exact d2, s1, s2, ?_⟩
        rw [eqv_py a b (okd_plain 60 a k1) (okd_plain 60 b k2)]
        exact fin_val hR f rfl
      · rw [if_neg k] at f
        exact f.elim
theorem ok_ne (hX : X.K = G.K) (hu : X.A.units + 64 < cLine) : OpR X (compareOp .NotEq) (rd2 G pn (cmpR .ne)) := by
  intro pins s σ H v u w z Q I rv ru h
  obtain ⟨W, φ, L, x, y, hR, rx, ry, f⟩ := h
  unfold cmpR cmpV cmpEq at f
  cases ex : x.view L with
  | none => simp only [ex] at f; exact f.elim
  | some a =>
    cases ey : y.view L with
    | none => simp only [ex, ey] at f; exact f.elim
    | some b =>
      simp only [ex, ey] at f
      by_cases k : (okd a && okd b) = true
      · rw [if_pos k] at f
        obtain ⟨k1, k2⟩ := Bool.and_eq_true_iff.mp k
        obtain ⟨d1, s1⟩ := RV.view hR rx ex k1
        obtain ⟨d2, s2⟩ := RV.view hR ry ey k2
        refine op_neD hu pins s σ H v u w z Q I rv ru ⟨_, _, by rw [hX]; exact d1, by rw [hX]; exact d2, s1, s2, ?_⟩
        rw [eqv_py a b (okd_plain 60 a k1) (okd_plain 60 b k2)]
        exact fin_val hR f rfl
      · rw [if_neg k] at f
        exact f.elim
theorem ok_lt4 (hX : X.K = G.K) (hu : X.A.units + 64 < cLine) (op : OpC) (o : CmpOp) (ho : o = (match op with | .lt => CmpOp.Lt | .le => .LtE | .gt => .Gt | _ => .GtE)) (hop : op = .lt ∨ op = .le ∨ op = .gt ∨ op = .ge) : OpR X (compareOp o) (rd2 G pn (cmpR op)) := by
  intro pins s σ H v u w z Q I rv ru h
  obtain ⟨W, φ, L, x, y, hR, rx, ry, f⟩ := h
  have f2 : Fin G (RelV2 G pn) W φ L H Q (match cmpLt op x y with | some b => .ok (.val (.bl b)) L | none => .stuck) := by
    rcases hop with e | e | e | e <;> (subst e; exact f)
  cases x with
  | val a =>
    cases y with
    | val b =>
      cases a with
      | int i =>
        cases b with
        | int j =>
          cases (show v = V.int i from rx)
          cases (show u = V.int j from ry)
          rcases hop with e | e | e | e
          · subst e; subst ho; exact op_lt pins s σ H _ _ w z Q I rv ru ⟨i, j, rfl, rfl, fin_val hR f2 rfl⟩
          · subst e; subst ho; exact op_le pins s σ H _ _ w z Q I rv ru ⟨i, j, rfl, rfl, fin_val hR f2 rfl⟩
          · subst e; subst ho; exact op_gt pins s σ H _ _ w z Q I rv ru ⟨i, j, rfl, rfl, fin_val hR f2 rfl⟩
          · subst e; subst ho; exact op_ge pins s σ H _ _ w z Q I rv ru ⟨i, j, rfl, rfl, fin_val hR f2 rfl⟩
        | _ => exact f2.elim
      | str a =>
        cases b with
        | str b =>
          obtain ⟨rfl, _, _⟩ := (show _ = V.str _ ∧ _ from rx)
          obtain ⟨rfl, _, _⟩ := (show _ = V.str _ ∧ _ from ry)
          rcases hop with e | e | e | e
          · subst e; subst ho
            refine op_lt_str pins s σ H _ _ w z Q I rv ru ⟨_, _, rfl, rfl, ?_⟩
            have q := fin_val hR f2 (show RD G (Own G φ L) H (.bl (strLt a b)) _ from rfl)
            exact q
          · subst e; exact f2.elim
          · subst e; exact f2.elim
          · subst e; exact f2.elim
        | _ => exact f2.elim
      | tup xs =>
        cases b with
        | tup ys =>
          rcases hop with e | e | e | e
          · subst e; subst ho
            have f3 : Fin G (RelV2 G pn) W φ L H Q (match (if D.cmpbs xs ys && D.okds 50 xs && D.okds 50 ys then some (D.ltbs xs ys) else none) with | some b => .ok (.val (.bl b)) L | none => .stuck) := f2
            by_cases k : (D.cmpbs xs ys && D.okds 50 xs && D.okds 50 ys) = true
            · rw [if_pos k] at f3
              obtain ⟨⟨k1, k2⟩, k3⟩ : (D.cmpbs xs ys = true ∧ D.okds 50 xs = true) ∧ D.okds 50 ys = true := by simpa using k
              have p1 : okd' (.tup xs) = true := okds_plain 50 xs k2
              have p2 : okd' (.tup ys) = true := okds_plain 50 ys k3
              obtain ⟨as, r1⟩ := Dp.reads I _ _ w (by rw [hX]; exact RD.dp _ _ rx p1) rv
              obtain ⟨bs, r2⟩ := Dp.reads I _ _ z (by rw [hX]; exact RD.dp _ _ ry p2) ru
              exact rcLt_reads 51 (.tup xs) (.tup ys) X.A s w z as bs r1 r2 k1 (by simpa [D.okd] using k2) (by simpa [D.okd] using k3) (RD.lay _ _ rx p1) (RD.lay _ _ ry p2) (by omega) _ _ _ _ ⟨.bl _, H, I, rfl, fin_val hR f3 rfl⟩
            · rw [if_neg k] at f3; exact f3.elim
          · subst e; exact f2.elim
          · subst e; exact f2.elim
          · subst e; exact f2.elim
        | _ => exact f2.elim
      | _ => exact f2.elim
    | ref n => cases a <;> exact f2.elim
    | exn C fs => cases a <;> exact f2.elim
  | ref n => exact f2.elim
  | exn C fs => exact f2.elim

theorem isNon {x : V2} {v : V} (r : RV G pn φ (Own G φ L) H x v) : x.isNon = decide (v = .non) := by
  cases x with
  | val d =>
    cases d with
    | non => cases (show v = V.non from r); rfl
    | bl b => cases (show v = V.bl b from r); rfl
    | int b => cases (show v = V.int b from r); rfl
    | str s => obtain ⟨rfl, _⟩ := (show _ = V.str _ ∧ _ from r); rfl
    | tup xs => obtain ⟨a, vs, rfl, _⟩ := r; rfl
    | lst xs => obtain ⟨a, vs, rfl, _⟩ := r; rfl
    | dct xs => obtain ⟨a, vs, rfl, _⟩ := r; rfl
    | ins C xs => obtain ⟨a, dx, gs, rfl, _⟩ := r; rfl
  | ref n => obtain ⟨a, rfl, _⟩ := r; rfl
  | exn C fs => obtain ⟨a, oe, dd, rfl, _⟩ := r; rfl
theorem isOther {x : V2} {v : V} {w : Value} (r : RV G pn φ (Own G φ L) H x v) (rv : RelV v w) (b : Bool) : x.isBl b = decide (w = .bool b) := by
  have no : ∀ {w : Value}, w ≠ .bool b → false = decide (w = .bool b) := fun h => (decide_eq_false h).symm
  cases x with
  | val d =>
    cases d with
    | non => cases (show v = V.non from r); cases (show w = Value.none from rv); exact no (by intro z; cases z)
    | bl a =>
      cases (show v = V.bl a from r)
      cases (show w = Value.bool a from rv)
      cases a <;> cases b <;> rfl
    | int i => cases (show v = V.int i from r); obtain ⟨t, rfl⟩ := rv; exact no (by intro z; cases z)
    | str s => obtain ⟨rfl, _⟩ := (show _ = V.str _ ∧ _ from r); obtain ⟨t, rfl⟩ := rv; exact no (by intro z; cases z)
    | tup xs => obtain ⟨a, vs, rfl, _⟩ := r; cases (show w = Value.ref a from rv); exact no (by intro z; cases z)
    | lst xs => obtain ⟨a, vs, rfl, _⟩ := r; cases (show w = Value.ref a from rv); exact no (by intro z; cases z)
    | dct xs => obtain ⟨a, vs, rfl, _⟩ := r; cases (show w = Value.ref a from rv); exact no (by intro z; cases z)
    | ins C xs => obtain ⟨a, dx, gs, rfl, _⟩ := r; cases (show w = Value.ref a from rv); exact no (by intro z; cases z)
  | ref n => obtain ⟨a, rfl, _⟩ := r; cases (show w = Value.ref a from rv); exact no (by intro z; cases z)
  | exn C fs => obtain ⟨a, oe, dd, rfl, _⟩ := r; cases (show w = Value.ref a from rv); exact no (by intro z; cases z)
theorem cmpIs_cases {x y : V2} {b : Bool} (h : cmpIs x y = some b) : (y = .val .non ∧ b = x.isNon) ∨ ∃ c, y = .val (.bl c) ∧ b = x.isBl c := by
  cases y with
  | val d =>
    cases d with
    | non => exact .inl ⟨rfl, (Option.some.inj h).symm⟩
    | bl c => exact .inr ⟨c, rfl, (Option.some.inj h).symm⟩
    | _ => simp [cmpIs] at h
  | ref n => simp [cmpIs] at h
  | exn C fs => simp [cmpIs] at h
theorem relV_nb {v : V} {w : Value} (r : RelV v w) (id : String) : w ≠ .builtin id := by
  intro e
  subst e
  cases v with
  | non => cases r
  | bl b => cases r
  | int i => obtain ⟨t, e⟩ := r; cases e
  | str x => obtain ⟨t, e⟩ := r; cases e
  | byt x => obtain ⟨t, e⟩ := r; cases e
  | flt x => obtain ⟨t, e⟩ := r; cases e
  | ref a => cases r
  | ty n => cases r
theorem isBoolOther {M : Model} {A : Around} {E : Value → Shared → Prop} {s : Shared} {Q : Value → Shared → Prop} {w : Value} {c : Bool} (hb : ∀ id, w ≠ .builtin id) (hw : w ≠ .bool c) (h : Q (.bool false) s) : wpAny M A (compareOp .Is w (.bool c)) Q E s := by
  cases w with
  | bool b => exact wpAny_is_other rfl hw h
  | builtin id => exact absurd rfl (hb id)
  | _ => exact wpAny_pure h
theorem isNotBoolOther {M : Model} {A : Around} {E : Value → Shared → Prop} {s : Shared} {Q : Value → Shared → Prop} {w : Value} {c : Bool} (hb : ∀ id, w ≠ .builtin id) (hw : w ≠ .bool c) (h : Q (.bool true) s) : wpAny M A (compareOp .IsNot w (.bool c)) Q E s := by
  cases w with
  | bool b => exact wpAny_isNot_other rfl hw h
  | builtin id => exact absurd rfl (hb id)
  | _ => exact wpAny_pure h
theorem ok_is : OpR X (compareOp .Is) (rd2 G pn (cmpR .is)) := by
  intro pins s σ H v u w z Q I rv ru h
  obtain ⟨W, φ, L, x, y, hR, rx, ry, f⟩ := h
  unfold cmpR cmpV at f
  cases e : cmpIs x y with
  | none => simp only [e] at f; exact f.elim
  | some b =>
    simp only [e] at f
    have q := fin_val hR f (show RD G (Own G φ L) H (.bl b) (.bl b) from rfl)
    rcases cmpIs_cases e with ⟨rfl, hb⟩ | ⟨c, rfl, hb⟩
    · cases (show u = V.non from ry)
      refine op_isN pins s σ H _ _ w z Q I rv ru ⟨rfl, ?_⟩
      rw [← isNon rx, ← hb]
      exact q
    · cases (show u = V.bl c from ry)
      cases (show z = Value.bool c from ru)
      have hb2 := hb.trans (isOther rx rv c)
      by_cases hw : w = .bool c
      · subst hw
        rw [decide_eq_true rfl] at hb2
        subst hb2
        exact wpAny_is_self rfl ⟨.bl true, H, I, rfl, q⟩
      · rw [decide_eq_false hw] at hb2
        subst hb2
        exact isBoolOther (relV_nb rv) hw ⟨.bl false, H, I, rfl, q⟩
theorem ok_isNot : OpR X (compareOp .IsNot) (rd2 G pn (cmpR .isNot)) := by
  intro pins s σ H v u w z Q I rv ru h
  obtain ⟨W, φ, L, x, y, hR, rx, ry, f⟩ := h
  unfold cmpR cmpV at f
  cases e : cmpIs x y with
  | none => simp only [e] at f; exact f.elim
  | some b =>
    simp only [e] at f
    have q := fin_val hR f (show RD G (Own G φ L) H (.bl (!b)) (.bl (!b)) from rfl)
    rcases cmpIs_cases e with ⟨rfl, hb⟩ | ⟨c, rfl, hb⟩
    · cases (show u = V.non from ry)
      refine op_notN pins s σ H _ _ w z Q I rv ru ⟨rfl, ?_⟩
      rw [← isNon rx, ← hb]
      exact q
    · cases (show u = V.bl c from ry)
      cases (show z = Value.bool c from ru)
      have hb2 := hb.trans (isOther rx rv c)
      by_cases hw : w = .bool c
      · subst hw
        rw [decide_eq_true rfl] at hb2
        subst hb2
        exact wpAny_isNot_self rfl ⟨.bl false, H, I, rfl, q⟩
      · rw [decide_eq_false hw] at hb2
        subst hb2
        exact isNotBoolOther (relV_nb rv) hw ⟨.bl true, H, I, rfl, q⟩
theorem inD_any {x : D} (kx : okd' x = true) : ∀ {xs : List D}, okds' xs = true → (D.pys xs).any (fun y => PyData.eqv y x.py) = inD x xs
  | [], _ => rfl
  | y :: r, k => by
    simp only [okds', Bool.and_eq_true] at k
    simp only [D.pys, List.any_cons, inD]
    rw [eqv_py y x k.1 kx, inD_any kx k.2]
theorem RV.viewSeq (h : HR G φ L H) {y : V2} {u : V} {xs : List D} (r : RV G pn φ (Own G φ L) H y u) (e : y.seq? L = some xs) (k : D.okds 59 xs = true) :
    (Dp G.K H u (.list (D.pys xs)) ∨ Dp G.K H u (.tuple (D.pys xs))) ∧ SeqAt.shaped (.list (D.pys xs)) = true := by
  have pl := okds_plain 59 xs k
  have dep := okds_depth 59 xs k
  obtain ⟨a, vs, rfl, t, rs⟩ := RV.seq h r e
  refine ⟨?_, ?_⟩
  · rcases t with t | t
    · exact .inl (.lst (.inl t) (RDs.dp xs vs rs pl))
    · exact .inr (.tup t (RDs.dp xs vs rs pl))
  · show (PyData.canLay0 (.list (D.pys xs)) && decide (PyData.depth (.list (D.pys xs)) ≤ 64)) = true
    have h1 : PyData.canLay0 (.list (D.pys xs)) = true := by
      simp only [PyData.canLay0]
      exact RDs.lay xs vs rs pl
    have h2 : PyData.depth (.list (D.pys xs)) ≤ 64 := by
      simp only [PyData.depth]
      omega
    rw [h1, decide_eq_true h2]
    rfl
theorem cmpIn_cases {x y : V2} {b : Bool} (h : cmpIn x y L = some b) : (∃ s t, x.view L = some (.str s) ∧ y = .val (.str t) ∧ b = strIn s t) ∨ (∃ a xs, x.view L = some a ∧ y.seq? L = some xs ∧ okd a = true ∧ D.okds 59 xs = true ∧ b = inD a xs) ∨ ∃ a kvs, x.view L = some a ∧ y.dct? L = some kvs ∧ keyOk a = true ∧ b = dictHas kvs a := by
  unfold cmpIn at h
  cases e : x.view L with
  | none => simp [e] at h
  | some a =>
    have gen : (match y.seq? L with
        | some xs => if (okd a && D.okds 59 xs) = true then some (inD a xs) else none
        | none => (match y.dct? L, keyOk a with
          | some kvs, true => some (dictHas kvs a)
          | _, _ => none)) = some b → (∃ a' xs, (some a : Option D) = some a' ∧ y.seq? L = some xs ∧ okd a' = true ∧ D.okds 59 xs = true ∧ b = inD a' xs) ∨ ∃ a' kvs, (some a : Option D) = some a' ∧ y.dct? L = some kvs ∧ keyOk a' = true ∧ b = dictHas kvs a' := fun h => by
      cases q : y.seq? L with
      | none =>
        simp only [q] at h
        cases e1 : y.dct? L with
        | none => simp [e1] at h
        | some kvs =>
          cases e2 : keyOk a with
          | false => simp [e1, e2] at h
          | true =>
            simp only [e1, e2] at h
            exact .inr ⟨a, kvs, rfl, rfl, e2, (Option.some.inj h).symm⟩
      | some xs =>
        simp only [q] at h
        by_cases k : (okd a && D.okds 59 xs) = true
        · rw [if_pos k] at h
          obtain ⟨k1, k2⟩ := Bool.and_eq_true_iff.mp k
          exact .inl ⟨a, xs, rfl, rfl, k1, k2, (Option.some.inj h).symm⟩
        · rw [if_neg k] at h; cases h
    cases a with
    | str s =>
      cases y with
      | val d =>
        cases d with
        | str t =>
          simp only [e] at h
          exact .inl ⟨s, t, rfl, rfl, (Option.some.inj h).symm⟩
        | _ => simp only [e] at h; exact .inr (gen h)
      | ref n => simp only [e] at h; exact .inr (gen h)
      | exn C fs => simp only [e] at h; exact .inr (gen h)
    | _ => simp only [e] at h; exact .inr (gen h)
theorem view_str {x : V2} {s : List Nat} (e : x.view L = some (.str s)) : x = .val (.str s) := by
  cases x with
  | val d => simp [V2.view] at e; rw [e]
  | ref n =>
    cases q : L[n]? with
    | none => simp [V2.view, q] at e
    | some o => cases o <;> simp [V2.view, q] at e
  | exn C fs => simp [V2.view] at e
theorem ok_in (hX : X.K = G.K) (hu : X.A.units + 64 < cLine) (neg : Bool) : OpR X (compareOp (if neg then .NotIn else .In)) (rd2 G pn (cmpR (if neg then .notIn else .in_))) := by
  intro pins s σ H v u w z Q I rv ru h
  obtain ⟨W, φ, L, x, y, hR, rx, ry, f⟩ := h
  have f2 : Fin G (RelV2 G pn) W φ L H Q (match (cmpIn x y L).map (fun b => if neg then !b else b) with | some b => .ok (.val (.bl b)) L | none => .stuck) := by
    cases neg
    · have e : (cmpIn x y L).map (fun b => if false = true then !b else b) = cmpIn x y L := by cases cmpIn x y L <;> rfl
      rw [e]
      exact f
    · exact f
  cases e : cmpIn x y L with
  | none => rw [e] at f2; exact f2.elim
  | some b =>
    rw [e] at f2
    have q := fin_val hR f2 (show RD G (Own G φ L) H (.bl (if neg then !b else b)) (.bl (if neg then !b else b)) from rfl)
    rcases cmpIn_cases e with ⟨a, t, ex, rfl, rfl⟩ | ⟨a, xs, ex, ey, k1, k2, rfl⟩ | ⟨a, kvs, ex, ey, k1, rfl⟩
    · have ex' := view_str ex
      subst ex'
      obtain ⟨rfl, _⟩ := (show _ = V.str _ ∧ _ from rx)
      obtain ⟨rfl, _⟩ := (show _ = V.str _ ∧ _ from ry)
      have lt : (⟨t.toArray⟩ : Str).length = t.length := by simp [Str.length]
      cases neg
      · refine op_in_str pins s σ H _ _ w z Q I rv ru ⟨_, _, rfl, rfl, ?_⟩
        rw [lt]
        exact q
      · refine op_notin_str pins s σ H _ _ w z Q I rv ru ⟨_, _, rfl, rfl, ?_⟩
        rw [lt]
        exact q
    · obtain ⟨d1, s1⟩ := RV.view hR rx ex k1
      obtain ⟨d2, s2⟩ := RV.viewSeq hR ry ey k2
      have an := inD_any (okd_plain 60 a k1) (okds_plain 59 xs k2)
      obtain ⟨as, r1⟩ := Dp.reads I _ v w (by rw [hX]; exact d1) rv
      have room : X.A.units + 1 + min (PyData.depthAll (D.pys xs)) a.py.depth < cLine := by
        have := okd_depth 60 a k1
        have : min (PyData.depthAll (D.pys xs)) a.py.depth ≤ a.py.depth := Nat.min_le_right _ _
        omega
      have c2 : PyData.canLayAll0 (D.pys xs) = true := by
        have := SeqAt.canLay_of_shaped s2
        simpa [PyData.canLay0] using this
      have hq : EP X pins σ Q (.bool (if neg then !(D.pys xs).any (fun y => PyData.eqv y a.py) else (D.pys xs).any fun y => PyData.eqv y a.py)) s := by
        rw [an]
        exact ⟨.bl _, H, I, rfl, q⟩
      rcases d2 with d2 | d2
      · obtain ⟨bs, r2⟩ := Dp.reads I _ u z (by rw [hX]; exact d2) ru
        cases neg
        · exact SeqAt.in_list_reads r2 r1 c2 (SeqAt.canLay_of_shaped s1) room hq
        · exact SeqAt.notIn_list_reads r2 r1 c2 (SeqAt.canLay_of_shaped s1) room hq
      · obtain ⟨bs, r2⟩ := Dp.reads I _ u z (by rw [hX]; exact d2) ru
        cases neg
        · exact SeqAt.in_tuple_reads r2 r1 c2 (SeqAt.canLay_of_shaped s1) room hq
        · exact SeqAt.notIn_tuple_reads r2 r1 c2 (SeqAt.canLay_of_shaped s1) room hq
    · exact in_dict hX (by omega) I hR rx ry rv ru ex ey k1 neg fun s' I' => ⟨.bl _, H, I', rfl, q⟩
/-- a comparison that Python has -/
def OpC.py : OpC → CmpOp
  | .eq => .Eq
  | .ne => .NotEq
  | .lt => .Lt
  | .le => .LtE
  | .gt => .Gt
  | .ge => .GtE
  | .is => .Is
  | .isNot => .IsNot
  | .in_ => .In
  | .notIn => .NotIn
theorem ok_cmp (hX : X.K = G.K) (hu : X.A.units + 64 < cLine) (op : OpC) : OpR X (compareOp op.py) (rd2 G pn (cmpR op)) := by
  cases op with
  | eq => exact ok_eq hX hu
  | ne => exact ok_ne hX hu
  | lt => exact ok_lt4 hX hu .lt _ rfl (.inl rfl)
  | le => exact ok_lt4 hX hu .le _ rfl (.inr (.inl rfl))
  | gt => exact ok_lt4 hX hu .gt _ rfl (.inr (.inr (.inl rfl)))
  | ge => exact ok_lt4 hX hu .ge _ rfl (.inr (.inr (.inr rfl)))
  | is => exact ok_is
  | isNot => exact ok_isNot
  | in_ => exact ok_in hX hu false
  | notIn => exact ok_in hX hu true
theorem ok_bin (hX : X.K = G.K) (own : Bool) (op : OpB) : OpR X (binaryOp op.py) (rd2 G pn (binV op own)) := by
  cases op with
  | add => exact ok_add hX own
  | mul => exact ok_mul own
  | sub => exact ok_int own .sub (by decide) (by decide)
  | fdiv => exact ok_int own .fdiv (by decide) (by decide)
  | mod => exact ok_int own .mod (by decide) (by decide)
  | pow => exact ok_int own .pow (by decide) (by decide)
  | shl => exact ok_int own .shl (by decide) (by decide)
  | shr => exact ok_int own .shr (by decide) (by decide)
  | band => exact ok_int own .band (by decide) (by decide)
  | bor => exact ok_int own .bor (by decide) (by decide)
end
end PI

set_option maxRecDepth 100000
set_option maxHeartbeats 1000000
namespace PI
open PySem PySem.Spec PyProof.Rows L2

section
variable {G : Gd} {pn : Pn} {φ : List Addr} {L : LH} {H : Hp} {Q : VK} {X : Cx}
theorem RDs.at {O : Addr → Prop} {ds : List D} {vs : List V} {k : Int} {d : D} (r : RDs G O H ds vs) (e : L2.atI ds k = some d) : ∃ v, L2.atI vs k = some v ∧ RD G O H d v := by
  unfold L2.atI at e ⊢
  rw [← r.len]
  cases q : L2.ixN ds.length k with
  | none => rw [q] at e; simp at e
  | some j =>
    rw [q] at e
    simp only [Option.bind_some] at e ⊢
    exact r.get e
theorem ok_sub (hX : X.K = G.K) (hu : X.A.units + 64 < cLine) : IxR X (rd2 G pn subV) := by
  intro value slice pins s σ H v u w z Q I rv ru h hs
  obtain ⟨W, φ, L, x, y, hR, rx, ry, f⟩ := h
  unfold subV at f
  cases ed : x.dct? L with
  | some kvs =>
    simp only [ed] at f
    cases ek : y.dat? with
    | none => simp only [ek] at f; exact f.elim
    | some k =>
      simp only [ek] at f
      by_cases hk : keyOk k = true
      · rw [if_pos hk] at f
        obtain ⟨b, ks, rfl, hH, rk⟩ := RV.dct hR rx ed
        cases (show w = Value.ref b from rv)
        have ey : y = .val k := by cases y <;> simp [V2.dat?] at ek; rw [ek]
        subst ey
        obtain ⟨rfl, hK⟩ := rk_rd ry hk
        cases eg : dictGet kvs k with
        | none => rw [eg] at f; exact f.elim
        | some d =>
          rw [eg] at f
          obtain ⟨v1, e1, r1⟩ := (RDk.get hk rk).2 d eg
          have g : DGet H b (kV (kOf k)) (some v1) := by rw [← e1]; exact DGet.k hH
          exact tail_any (dict_typeIs I g) PySem.F.slot_dict_getitem.lookup hs (d_getItem (by omega) I g ru fun w' s' I' rw' => ⟨v1, H, I', rw', fin_val hR f r1⟩)
      · rw [if_neg hk] at f; exact f.elim
  | none =>
  simp only [ed] at f
  cases ei : y.int? with
  | none => simp only [ei] at f; exact f.elim
  | some k =>
    simp only [ei] at f
    obtain ⟨rfl, _⟩ := RV.int ry ei
    have seqs : Fin G (RelV2 G pn) W φ L H Q (match x.seq? L with
        | some xs => (match L2.atI xs k with
          | some d => .ok (.val d) L
          | none => .stuck)
        | none => .stuck) → wpAny (model X.prog X.w) X.A (subscriptTail value slice w z) (EP X pins σ Q) X.xe s := fun f => by
      cases e : x.seq? L with
      | none => rw [e] at f; exact f.elim
      | some xs =>
        simp only [e] at f
        cases ea : L2.atI xs k with
        | none => rw [ea] at f; exact f.elim
        | some d =>
          simp only [ea] at f
          obtain ⟨a, vs, rfl, t, rs⟩ := RV.seq hR rx e
          obtain ⟨v1, h1, h2⟩ := rs.at ea
          rcases t with t | t
          · exact ix_list value slice pins s σ H _ _ w z Q I rv ru ⟨a, vs, k, v1, rfl, rfl, .inl t, h1, fin_val hR f h2⟩ hs
          · exact ix_tup value slice pins s σ H _ _ w z Q I rv ru ⟨a, vs, k, v1, rfl, rfl, by rw [hX]; exact t, h1, fin_val hR f h2⟩ hs
    cases x with
    | val d =>
      cases d with
      | str a =>
        obtain ⟨rfl, hc, hl⟩ := (show _ = V.str _ ∧ _ from rx)
        cases ea : L2.atI a k with
        | none => simp only [ea] at f; exact f.elim
        | some c =>
          simp only [ea] at f
          refine ix_str value slice pins s σ H _ _ w z Q I rv ru ⟨_, k, c, rfl, rfl, ?_, ?_, ?_⟩ hs
          · show a.toArray.size ≤ sizeLine
            rw [← lim_eq]; simpa using hl
          · simpa using ea
          · have hm : c ∈ a := by
              unfold L2.atI at ea
              obtain ⟨j, _, hj⟩ := Option.bind_eq_some_iff.mp ea
              exact List.mem_of_getElem? hj
            exact fin_val hR f (show RD G (Own G φ L) H (.str [c]) _ from ⟨rfl, fun c' h' => by rw [List.mem_singleton.mp h']; exact hc c hm, (by show 1 ≤ lim; decide)⟩)
      | _ => exact seqs f
    | ref n => exact seqs f
    | exn C fs => exact seqs f
theorem cut_str (a : List Nat) (lo hi : Option Int) : cutS ⟨a.toArray⟩ lo hi = ⟨(cutD a lo hi).toArray⟩ := by
  unfold cutS cutD
  have : (⟨a.toArray⟩ : Str).length = a.length := by simp [Str.length]
  rw [this]
theorem cut_len {α : Type} (xs : List α) (lo hi : Option Int) : (cutD xs lo hi).length ≤ xs.length := by
  unfold cutD
  rw [List.length_take, List.length_drop]
  omega
theorem ok_slice (hX : X.K = G.K) (own : Bool) : SlR X (fun v lo hi H Q => ∃ (W : Nat → List (Nat × D) → List Addr → LH → Hp → Prop) (φ : List Addr) (L : LH) (x : V2), HR G φ L H ∧ RV G pn φ (Own G φ L) H x v ∧ Fin G (RelV2 G pn) W φ L H Q (sliceV own x lo hi L)) := by
  intro pins s σ H v w vl vu lo hi sl Q I rv hs pl pu h
  obtain ⟨W, φ, L, x, hR, rx, f⟩ := h
  have lists : Fin G (RelV2 G pn) W φ L H Q (match x.lst? L with
      | some xs => newL own (cutD xs lo hi) L
      | none => .stuck) → ∃ T id, typeLookup (.type T) "__getitem__" = pure (some (.builtin id)) ∧ s.TypeIs w T ∧ wpAny (model X.prog X.w) X.A (getItem w (.ref sl)) (EP X pins σ Q) X.xe s := fun f => by
    cases e : x.lst? L with
    | none => rw [e] at f; exact f.elim
    | some xs =>
      simp only [e] at f
      obtain ⟨a, vs, rfl, t, rs⟩ := RV.lst hR rx e
      exact sl_list pins s σ H _ w vl vu lo hi sl Q I rv hs pl pu ⟨a, vs, rfl, .inl t, (fin_newL hR f (rs.cut lo hi)).2⟩
  cases x with
  | val d =>
    cases d with
    | str a =>
      obtain ⟨rfl, hc, hl⟩ := (show _ = V.str _ ∧ _ from rx)
      refine sl_str pins s σ H _ w vl vu lo hi sl Q I rv hs pl pu ⟨_, rfl, by rw [← lim_eq]; show a.toArray.size ≤ lim; simpa using hl, ?_⟩
      rw [cut_str]
      refine fin_val hR f ⟨rfl, fun c hm => hc c ?_, Nat.le_trans (cut_len _ _ _) hl⟩
      unfold cutD at hm
      exact List.mem_of_mem_drop (List.mem_of_mem_take hm)
    | tup xs =>
      obtain ⟨a, vs, rfl, t, rs⟩ := rx
      have rc := rs.cut lo hi
      refine sl_tupA pins s σ H _ w vl vu lo hi sl Q I rv hs pl pu ⟨a, vs, rfl, by rw [hX]; exact t.sq, fun hw => ?_, fun hw p hp => ?_⟩
      · have e : cutD xs lo hi = xs := by
          unfold cutD
          rw [← rs.len] at hw
          rw [hw.1, hw.2]
          simp
        have f' : Fin G (RelV2 G pn) W φ L H Q (.ok (.val (.tup (cutD xs lo hi))) L) := f
        rw [e] at f'
        exact fin_val hR f' ⟨a, vs, rfl, t, rs⟩
      · obtain ⟨h1, e1⟩ := hR.lay hp (.tup (cutV vs lo hi))
        exact f φ (.ref p) _ h1 e1 ⟨p, _, rfl, .inl ⟨.inl upd_same, fun z => (hR.notOwn hp) z⟩, RDs.go e1.stp _ _ rc⟩
    | _ => exact lists f
  | ref n => exact lists f
  | exn C fs => exact lists f

theorem RVs.one {x : V2} {vs : List V} {O : Addr → Prop} (r : RVs G pn φ O H [x] vs) : ∃ v, vs = [v] ∧ RV G pn φ O H x v := by
  obtain ⟨v, q, e, h1, h2⟩ := r
  cases (show q = [] from h2)
  exact ⟨v, e, h1⟩
theorem ok_len (hX : X.K = G.K) (own : Bool) : CallR X (.builtin "len") (rdN G pn (biV own .len)) := by
  intro pins s σ H vs us Q I r h
  obtain ⟨W, φ, L, xs, hR, rx, f⟩ := h
  match xs, rx, f with
  | [], _, f => exact f.elim
  | _ :: _ :: _, _, f => exact f.elim
  | [x], rx, f =>
    obtain ⟨v, rfl, ry⟩ := RVs.one rx
    have seqs : Fin G (RelV2 G pn) W φ L H Q (match x.seq? L with
        | some ys => .ok (.val (.int ys.length)) L
        | none => .stuck) → wpAny (model X.prog X.w) X.A (PySem.call (.builtin "len") us) (EP X pins σ Q) X.xe s := fun f => by
      cases e : x.seq? L with
      | none => rw [e] at f; exact f.elim
      | some ys =>
        simp only [e] at f
        obtain ⟨a, ws, rfl, t, rs⟩ := RV.seq hR ry e
        refine call_len_seq pins s σ H _ us Q I r ⟨a, ws, rfl, ?_, ?_⟩
        · rcases t with t | t
          · exact .inl (.inl t)
          · exact .inr (by rw [hX]; exact t)
        · rw [← rs.len]
          exact fin_val hR f rfl
    cases x with
    | val d =>
      cases d with
      | str a =>
        obtain ⟨rfl, hc, hl⟩ := (show _ = V.str _ ∧ _ from ry)
        refine call_len_str pins s σ H _ us Q I r ⟨_, rfl, by rw [← lim_eq]; show a.toArray.size ≤ lim; simpa using hl, ?_⟩
        have e : ((⟨a.toArray⟩ : Str).length : Int) = (a.length : Int) := by simp [Str.length]
        rw [e]
        exact fin_val hR f rfl
      | _ => exact seqs f
    | ref n => exact seqs f
    | exn C fs => exact seqs f
theorem ok_intC (own : Bool) : CallR X (.type "int") (rdN G pn (biV own .int)) := by
  intro pins s σ H vs us Q I r h
  obtain ⟨W, φ, L, xs, hR, rx, f⟩ := h
  match xs, rx, f with
  | [], _, f => exact f.elim
  | _ :: _ :: _, _, f => exact f.elim
  | [x], rx, f =>
    obtain ⟨v, rfl, ry⟩ := RVs.one rx
    cases x with
    | val d =>
      cases d with
      | int i =>
        cases (show v = V.int i from ry)
        exact call_int1 pins s σ H _ us Q I r (.inl ⟨i, rfl, fin_val hR f rfl⟩)
      | _ => exact f.elim
    | ref n => exact f.elim
    | exn C fs => exact f.elim
theorem bools_rd {O : Addr → Prop} : ∀ {ds : List D} {vs : List V} {bs : List Bool}, bools ds = some bs → RDs G O H ds vs → vs = bs.map V.bl
  | [], _, _, e, r => by cases e; exact r
  | d :: ds, _, bs, e, r => by
    obtain ⟨v, q, rfl, h1, h2⟩ := r
    cases d with
    | bl b =>
      simp only [bools] at e
      cases e2 : bools ds with
      | none => rw [e2] at e; cases e
      | some cs =>
        rw [e2] at e
        cases e
        cases (show v = V.bl b from h1)
        rw [bools_rd e2 h2]
        rfl
    | _ => simp [bools] at e
theorem ok_all (hc : X.calm = true) (own : Bool) : CallR X (.builtin "all") (rdN G pn (biV own .all)) := by
  intro pins s σ H vs us Q I r h
  obtain ⟨W, φ, L, xs, hR, rx, f⟩ := h
  match xs, rx, f with
  | [], _, f => exact f.elim
  | _ :: _ :: _, _, f => exact f.elim
  | [x], rx, f =>
    obtain ⟨v, rfl, ry⟩ := RVs.one rx
    have f : Fin G (RelV2 G pn) W φ L H Q (match (x.lst? L).bind bools with
      | some bs => .ok (.val (.bl (bs.all id))) L
      | none => .stuck) := f
    cases e : x.lst? L with
    | none => rw [e] at f; exact f.elim
    | some ds =>
      rw [e] at f
      cases e2 : bools ds with
      | none => simp only [Option.bind_some, e2] at f; exact f.elim
      | some bs =>
        simp only [Option.bind_some, e2] at f
        obtain ⟨a, ws, rfl, t, rs⟩ := RV.lst hR ry e
        have ew := bools_rd e2 rs
        subst ew
        exact cr_all hc pins s σ H _ us Q I r ⟨a, bs, rfl, .inl t, fin_val hR f rfl⟩
theorem ok_any (hc : X.calm = true) (own : Bool) : CallR X (.builtin "any") (rdN G pn (biV own .any)) := by
  intro pins s σ H vs us Q I r h
  obtain ⟨W, φ, L, xs, hR, rx, f⟩ := h
  match xs, rx, f with
  | [], _, f => exact f.elim
  | _ :: _ :: _, _, f => exact f.elim
  | [x], rx, f =>
    obtain ⟨v, rfl, ry⟩ := RVs.one rx
    have f : Fin G (RelV2 G pn) W φ L H Q (match (x.lst? L).bind bools with
      | some bs => .ok (.val (.bl (bs.any id))) L
      | none => .stuck) := f
    cases e : x.lst? L with
    | none => rw [e] at f; exact f.elim
    | some ds =>
      rw [e] at f
      cases e2 : bools ds with
      | none => simp only [Option.bind_some, e2] at f; exact f.elim
      | some bs =>
        simp only [Option.bind_some, e2] at f
        obtain ⟨a, ws, rfl, t, rs⟩ := RV.lst hR ry e
        have ew := bools_rd e2 rs
        subst ew
        exact cr_any hc pins s σ H _ us Q I r ⟨a, bs, rfl, .inl t, fin_val hR f rfl⟩
theorem ok_list (hX : X.K = G.K) (own : Bool) : CallR X (.type "list") (rdN G pn (biV own .list)) := by
  intro pins s σ H vs us Q I r h
  obtain ⟨W, φ, L, xs, hR, rx, f⟩ := h
  match xs, rx, f with
  | [], _, f => exact f.elim
  | _ :: _ :: _, _, f => exact f.elim
  | [x], rx, f =>
    obtain ⟨v, rfl, ry⟩ := RVs.one rx
    have f : Fin G (RelV2 G pn) W φ L H Q (match x.seq? L with
      | some ys => newL own ys L
      | none => .stuck) := f
    cases e : x.seq? L with
    | none => rw [e] at f; exact f.elim
    | some ys =>
      simp only [e] at f
      obtain ⟨a, ws, rfl, t, rs⟩ := RV.seq hR ry e
      refine call_list_of pins s σ H _ us Q I r ⟨a, ws, rfl, ?_, (fin_newL hR f rs).2⟩
      rcases t with t | t
      · exact .inl (.inl t)
      · exact .inr (by rw [hX]; exact t)
theorem ok_tuple (hX : X.K = G.K) (own : Bool) : CallR X (.type "tuple") (rdN G pn (biV own .tuple)) := by
  intro pins s σ H vs us Q I r h
  obtain ⟨W, φ, L, xs, hR, rx, f⟩ := h
  match xs, rx, f with
  | [], _, f => exact f.elim
  | _ :: _ :: _, _, f => exact f.elim
  | [x], rx, f =>
    obtain ⟨v, rfl, ry⟩ := RVs.one rx
    have lists : Fin G (RelV2 G pn) W φ L H Q (match x.lst? L with
        | some ys => newT ys L
        | none => .stuck) → wpAny (model X.prog X.w) X.A (PySem.call (.type "tuple") us) (EP X pins σ Q) X.xe s := fun f => by
      cases e : x.lst? L with
      | none => rw [e] at f; exact f.elim
      | some ys =>
        simp only [e] at f
        obtain ⟨a, ws, rfl, t, rs⟩ := RV.lst hR ry e
        exact call_tuple_of pins s σ H _ us Q I r ⟨a, ws, rfl, .inl ⟨.inl t, (fin_newT hR f rs).2⟩⟩
    cases x with
    | val d =>
      cases d with
      | tup ys =>
        obtain ⟨a, ws, rfl, t, rs⟩ := ry
        exact call_tuple_of pins s σ H _ us Q I r ⟨a, ws, rfl, .inr ⟨by rw [hX]; exact t.sq, fin_val hR f ⟨a, ws, rfl, t, rs⟩⟩⟩
      | _ => exact lists f
    | ref n => exact lists f
    | exn C fs => exact lists f

theorem ints_rd {O : Addr → Prop} : ∀ {ds : List D} {vs : List V} {is : List Int}, intsD ds = some is → RDs G O H ds vs → vs = is.map V.int
  | [], _, _, e, r => by cases e; exact r
  | d :: ds, _, is, e, r => by
    obtain ⟨v, q, rfl, h1, h2⟩ := r
    cases d with
    | int i =>
      simp only [intsD] at e
      cases e2 : intsD ds with
      | none => rw [e2] at e; cases e
      | some cs =>
        rw [e2] at e
        cases e
        cases (show v = V.int i from h1)
        rw [ints_rd e2 h2]
        rfl
    | _ => simp [intsD] at e
theorem ok_sum (hc : X.calm = true) (own : Bool) : CallR X (.builtin "sum") (rdN G pn (biV own .sum)) := by
  intro pins s σ H vs us Q I r h
  obtain ⟨W, φ, L, xs, hR, rx, f⟩ := h
  match xs, rx, f with
  | [], _, f => exact f.elim
  | _ :: _ :: _, _, f => exact f.elim
  | [x], rx, f =>
    obtain ⟨v, rfl, ry⟩ := RVs.one rx
    have f : Fin G (RelV2 G pn) W φ L H Q (match (x.lst? L).bind intsD with
      | some is => .ok (.val (.int is.sum)) L
      | none => .stuck) := f
    cases e : x.lst? L with
    | none => rw [e] at f; exact f.elim
    | some ds =>
      rw [e] at f
      cases e2 : intsD ds with
      | none => simp only [Option.bind_some, e2] at f; exact f.elim
      | some is =>
        simp only [Option.bind_some, e2] at f
        obtain ⟨a, ws, rfl, t, rs⟩ := RV.lst hR ry e
        have ew := ints_rd e2 rs
        subst ew
        exact cr_sum hc pins s σ H _ us Q I r ⟨a, is, rfl, .inl t, fin_val hR f rfl⟩
theorem RVs.two {x y : V2} {vs : List V} {O : Addr → Prop} (r : RVs G pn φ O H [x, y] vs) : ∃ u v, vs = [u, v] ∧ RV G pn φ O H x u ∧ RV G pn φ O H y v := by
  obtain ⟨v, q, e, h1, w, q2, e2, h2, h3⟩ := r
  cases (show q2 = [] from h3)
  subst e2
  exact ⟨v, w, e, h1, h2⟩
theorem ok_mm (hc : X.calm = true) (own : Bool) : CallR X (.builtin "max") (rdN G pn (biV own .max)) ∧ CallR X (.builtin "min") (rdN G pn (biV own .min)) := by
  refine ⟨?_, ?_⟩
  · intro pins s σ H vs us Q I r h
    obtain ⟨W, φ, L, xs, hR, rx, f⟩ := h
    match xs, rx, f with
    | [], _, f => exact f.elim
    | [_], _, f => exact f.elim
    | _ :: _ :: _ :: _, _, f => exact f.elim
    | [x, y], rx, f =>
      obtain ⟨v, u, rfl, r1, r2⟩ := RVs.two rx
      have f : Fin G (RelV2 G pn) W φ L H Q (match x.int?, y.int? with
        | some i, some j => .ok (.val (.int (if j > i then j else i))) L
        | _, _ => .stuck) := f
      cases e1 : x.int? with
      | none => rw [e1] at f; exact f.elim
      | some i =>
        cases e2 : y.int? with
        | none => rw [e1, e2] at f; exact f.elim
        | some j =>
          simp only [e1, e2] at f
          obtain ⟨rfl, _⟩ := RV.int r1 e1
          obtain ⟨rfl, _⟩ := RV.int r2 e2
          exact call_max2 hc pins s σ H _ us Q I r ⟨i, j, rfl, fin_val hR f rfl⟩
  · intro pins s σ H vs us Q I r h
    obtain ⟨W, φ, L, xs, hR, rx, f⟩ := h
    match xs, rx, f with
    | [], _, f => exact f.elim
    | [_], _, f => exact f.elim
    | _ :: _ :: _ :: _, _, f => exact f.elim
    | [x, y], rx, f =>
      obtain ⟨v, u, rfl, r1, r2⟩ := RVs.two rx
      have f : Fin G (RelV2 G pn) W φ L H Q (match x.int?, y.int? with
        | some i, some j => .ok (.val (.int (if j < i then j else i))) L
        | _, _ => .stuck) := f
      cases e1 : x.int? with
      | none => rw [e1] at f; exact f.elim
      | some i =>
        cases e2 : y.int? with
        | none => rw [e1, e2] at f; exact f.elim
        | some j =>
          simp only [e1, e2] at f
          obtain ⟨rfl, _⟩ := RV.int r1 e1
          obtain ⟨rfl, _⟩ := RV.int r2 e2
          exact call_min2 hc pins s σ H _ us Q I r ⟨i, j, rfl, fin_val hR f rfl⟩
theorem ok_abs (own : Bool) : CallR X (.builtin "abs") (rdN G pn (biV own .abs)) := by
  intro pins s σ H vs us Q I r h
  obtain ⟨W, φ, L, xs, hR, rx, f⟩ := h
  match xs, rx, f with
  | [], _, f => exact f.elim
  | _ :: _ :: _, _, f => exact f.elim
  | [x], rx, f =>
    obtain ⟨v, rfl, r1⟩ := RVs.one rx
    have f : Fin G (RelV2 G pn) W φ L H Q (match x.int? with
      | some i => .ok (.val (.int (if i < 0 then -i else i))) L
      | none => .stuck) := f
    cases e1 : x.int? with
    | none => rw [e1] at f; exact f.elim
    | some i =>
      simp only [e1] at f
      obtain ⟨rfl, _⟩ := RV.int r1 e1
      exact call_abs pins s σ H _ us Q I r ⟨i, rfl, fin_val hR f rfl⟩

/-- a list's change -/
theorem fin_lstPut {W : Nat → List (Nat × D) → List Addr → LH → Hp → Prop} {x : V2} {v : V} {g : List D → Option (List D × D)} (hR : HR G φ L H) (rx : RV G pn φ (Own G φ L) H x v) (f : Fin G (RelV2 G pn) W φ L H Q (lstPut x L g)) :
    ∃ a ys vs zs d, v = .ref a ∧ H a = some (.lst vs) ∧ RDs G (Own G φ L) H ys vs ∧ g ys = some (zs, d) ∧ ∀ us u, RDs G (Own G φ L) H zs us → RD G (Own G φ L) H d u → Q u (upd H a (.lst us)) := by
  cases x with
  | val d => exact f.elim
  | exn C fs => exact f.elim
  | ref n =>
    unfold lstPut at f
    cases hn : L[n]? with
    | none => simp only [hn] at f; exact f.elim
    | some o =>
      cases o with
      | lst ys =>
        simp only [hn] at f
        cases hg : g ys with
        | none => simp only [hg] at f; exact f.elim
        | some p =>
          obtain ⟨zs, d⟩ := p
          simp only [hg] at f
          obtain ⟨a, ws, rfl, ha, hH, rs⟩ := RV.own hR rx hn
          refine ⟨a, ys, ws, zs, d, rfl, hH, rs, hg, fun us u q1 q2 => ?_⟩
          obtain ⟨h1, e1⟩ := fin_put hR hn ha q1
          exact f φ u _ h1 e1 (RD.go e1.stp d u q2)
      | _ => simp only [hn] at f; exact f.elim
theorem ok_insert (own : Bool) : MtR X "list.insert" (rdM G pn (methV own .lInsert)) := by
  intro pins s σ H v vs w us Q I rv r h
  obtain ⟨W, φ, L, x, xs, hR, rx, rxs, f⟩ := h
  match xs, rxs, f with
  | [], _, f => exact f.elim
  | [_], _, f => exact f.elim
  | [_, .ref _], _, f => exact f.elim
  | [_, .exn _ _], _, f => exact f.elim
  | _ :: .ref _ :: _ :: _, _, f => exact f.elim
  | _ :: .exn _ _ :: _ :: _, _, f => exact f.elim
  | _ :: .val _ :: _ :: _, _, f => exact f.elim
  | [i, .val y], rxs, f =>
    obtain ⟨u1, u2, rfl, r1, r2⟩ := RVs.two rxs
    cases e1 : i.int? with
    | none => simp only [methV, e1] at f; exact f.elim
    | some k =>
      simp only [methV, e1] at f
      by_cases hk : 0 ≤ k ∧ k < 2 ^ 63
      · rw [if_pos hk] at f
        obtain ⟨rfl, _⟩ := RV.int r1 e1
        obtain ⟨a, ys, ws, zs, d, rfl, hH, rs, hg, hq⟩ := fin_lstPut hR rx f
        by_cases hl : ys.length < lim
        · rw [if_pos hl] at hg
          cases hg
          refine mt_insert pins s σ H _ _ w us Q I rv r ⟨a, ws, k, u2, rfl, rfl, hH, by rw [← rs.len, ← lim_eq]; exact hl, hk.1, hk.2, ?_⟩
          exact hq _ _ (((rs.take _).app (RDs.one r2)).app (rs.drop _)) rfl
        · rw [if_neg hl] at hg; cases hg
      · rw [if_neg hk] at f; exact f.elim
theorem RDs.dropLast {O : Addr → Prop} {ds : List D} {vs : List V} (r : RDs G O H ds vs) : RDs G O H ds.dropLast vs.dropLast := by
  rw [List.dropLast_eq_take, List.dropLast_eq_take, r.len]
  exact r.take _
theorem ok_pop (own : Bool) : MtM X "list.pop" (rdM G pn (methV own .lPop)) := by
  intro pins s σ H v vs w us Q I rv r h
  obtain ⟨W, φ, L, x, xs, hR, rx, rxs, f⟩ := h
  match xs, rxs, f with
  | _ :: _, _, f => exact f.elim
  | [], rxs, f =>
    cases (show vs = [] from rxs)
    obtain ⟨a, ys, ws, zs, d, rfl, hH, rs, hg, hq⟩ := fin_lstPut hR rx f
    cases e : ys[ys.length - 1]? with
    | none => rw [e] at hg; cases hg
    | some y =>
      rw [e] at hg
      cases hg
      obtain ⟨u, e2, r2⟩ := rs.get e
      rw [rs.len] at e2
      exact mt_pop pins s σ H _ _ w us Q I rv r ⟨a, ws, u, rfl, rfl, hH, e2, hq _ _ rs.dropLast r2⟩
theorem ok_popAt (own : Bool) : MtM X "list.pop" (rdM G pn (methV own .lPopAt)) := by
  intro pins s σ H v vs w us Q I rv r h
  obtain ⟨W, φ, L, x, xs, hR, rx, rxs, f⟩ := h
  match xs, rxs, f with
  | [], _, f => exact f.elim
  | _ :: _ :: _, _, f => exact f.elim
  | [i], rxs, f =>
    obtain ⟨u1, rfl, r1⟩ := RVs.one rxs
    cases e1 : i.int? with
    | none => simp only [methV, e1] at f; exact f.elim
    | some k =>
      simp only [methV, e1] at f
      by_cases hk : -(2 ^ 63) ≤ k ∧ k < 2 ^ 63
      · rw [if_pos hk] at f
        obtain ⟨rfl, _⟩ := RV.int r1 e1
        obtain ⟨a, ys, ws, zs, d, rfl, hH, rs, hg, hq⟩ := fin_lstPut hR rx f
        cases e2 : L2.ixN ys.length k with
        | none => rw [e2] at hg; cases hg
        | some j =>
          rw [e2] at hg
          simp only [Option.bind_some] at hg
          cases e3 : ys[j]? with
          | none => rw [e3] at hg; cases hg
          | some y =>
            rw [e3] at hg
            cases hg
            obtain ⟨u, e4, r4⟩ := rs.get e3
            refine mt_popAt pins s σ H _ _ w us Q I rv r ⟨a, ws, k, j, u, rfl, rfl, hH, hk.1, hk.2, ?_, e4, hq _ _ (rs.erase j) r4⟩
            rw [← rs.len]
            unfold L2.ixN at e2
            unfold seqIndex?
            have hj : j < ys.length := (List.getElem?_eq_some_iff.mp e3).1
            split at e2
            · split at e2
              · cases e2
                rw [if_neg (show ¬ k < 0 by omega)]
                exact if_pos (by simp; omega)
              · cases e2
            · split at e2
              · cases e2
                rw [if_pos (show k < 0 by omega)]
                exact if_pos (by simp; omega)
              · cases e2
      · rw [if_neg hk] at f; exact f.elim
theorem ok_reverse (own : Bool) : MtM X "list.reverse" (rdM G pn (methV own .lReverse)) := by
  intro pins s σ H v vs w us Q I rv r h
  obtain ⟨W, φ, L, x, xs, hR, rx, rxs, f⟩ := h
  match xs, rxs, f with
  | _ :: _, _, f => exact f.elim
  | [], rxs, f =>
    cases (show vs = [] from rxs)
    obtain ⟨a, ys, ws, zs, d, rfl, hH, rs, hg, hq⟩ := fin_lstPut hR rx (show Fin G (RelV2 G pn) W φ L H Q (lstPut x L fun ys => some (ys.reverse, .non)) from f)
    cases hg
    exact mt_reverse pins s σ H _ _ w us Q I rv r ⟨a, ws, rfl, rfl, hH, hq _ _ rs.rev rfl⟩
theorem ok_find (own : Bool) : MtR X "str.find" (rdM G pn (methV own .sFind)) := by
  intro pins s σ H v vs w us Q I rv r h
  obtain ⟨W, φ, L, x, xs, hR, rx, rxs, f⟩ := h
  match xs, rxs, f with
  | [], _, f => exact f.elim
  | _ :: _ :: _, _, f => exact f.elim
  | [y], rxs, f =>
    obtain ⟨u, rfl, ru⟩ := RVs.one rxs
    cases x with
    | val d =>
      cases d with
      | str a =>
        cases y with
        | val d =>
          cases d with
          | str b =>
            obtain ⟨rfl, hc, hl⟩ := (show _ = V.str _ ∧ _ from rx)
            obtain ⟨rfl, hc2, hl2⟩ := (show _ = V.str _ ∧ _ from ru)
            have f' : Fin G (RelV2 G pn) W φ L H Q (.ok (.val (.int (Txt.find ⟨a.toArray⟩ ⟨b.toArray⟩))) L) := f
            exact mt_find pins s σ H _ _ w us Q I rv r ⟨_, _, rfl, rfl, fin_val hR f' rfl⟩
          | _ => exact f.elim
        | ref n => exact f.elim
        | exn C fs => exact f.elim
      | _ => exact f.elim
    | ref n => exact f.elim
    | exn C fs => exact f.elim
theorem ok_append (own : Bool) : MtR X "list.append" (rdM G pn (methV own .lAppend)) := by
  intro pins s σ H v vs w us Q I rv r h
  obtain ⟨W, φ, L, x, xs, hR, rx, rxs, f⟩ := h
  match xs, rxs, f with
  | [], _, f => exact f.elim
  | .ref _ :: [], _, f => exact f.elim
  | .exn _ _ :: [], _, f => exact f.elim
  | .ref _ :: _ :: _, _, f => exact f.elim
  | .exn _ _ :: _ :: _, _, f => exact f.elim
  | .val _ :: _ :: _, _, f => exact f.elim
  | [.val y], rxs, f =>
    obtain ⟨u, rfl, ru⟩ := RVs.one rxs
    have f : Fin G (RelV2 G pn) W φ L H Q (lstPut x L fun ys => if ys.length < lim then some (ys ++ [y], .non) else none) := f
    cases x with
    | val d => exact f.elim
    | exn C fs => exact f.elim
    | ref n =>
      unfold lstPut at f
      cases hn : L[n]? with
      | none => simp only [hn] at f; exact f.elim
      | some o =>
        cases o with
        | lst ys =>
          simp only [hn] at f
          by_cases hl : ys.length < lim
          · simp only [hl, if_true] at f
            obtain ⟨a, ws, rfl, ha, hH, rs⟩ := RV.own hR rx hn
            obtain ⟨h1, e1⟩ := fin_put hR hn ha (rs.app (RDs.one ru))
            exact mt_append pins s σ H _ _ w us Q I rv r ⟨a, ws, u, rfl, rfl, hH, by rw [← rs.len, ← lim_eq]; exact hl, f φ .non _ h1 e1 rfl⟩
          · simp only [hl, if_false] at f
            exact f.elim
        | _ => simp only [hn] at f; exact f.elim
theorem upper_arr (a : List Nat) : (a.toArray.map up1) = (upper a).toArray := by
  unfold upper
  simp only [List.map_toArray]
  rfl
theorem ok_upper (own : Bool) : MtR X "str.upper" (rdM G pn (methV own .sUpper)) := by
  intro pins s σ H v vs w us Q I rv r h
  obtain ⟨W, φ, L, x, xs, hR, rx, rxs, f⟩ := h
  match xs, rxs, f with
  | _ :: _, _, f => cases x <;> exact f.elim
  | [], rxs, f =>
    cases (show vs = [] from rxs)
    cases x with
    | val d =>
      cases d with
      | str a =>
        obtain ⟨rfl, hc, hl⟩ := (show _ = V.str _ ∧ _ from rx)
        have f : Fin G (RelV2 G pn) W φ L H Q (if (a.all (fun c => decide (c < 128)) && decide (a.length ≤ 5592405)) = true then .ok (.val (.str (upper a))) L else .stuck) := f
        by_cases k : (a.all (fun c => decide (c < 128)) && decide (a.length ≤ 5592405)) = true
        · rw [if_pos k] at f
          simp only [Bool.and_eq_true, List.all_eq_true, decide_eq_true_eq] at k
          refine mt_upper pins s σ H _ _ w us Q I rv r ⟨_, rfl, rfl, ?_, ?_⟩
          · show a.toArray.size ≤ _
            simpa using k.2
          · rw [upper_ascii (x := ⟨a.toArray⟩) (by simpa using k.1), upper_arr]
            refine fin_val hR f ⟨rfl, fun c hm => ?_, by simpa [upper] using hl⟩
            unfold upper at hm
            obtain ⟨c', h1, h2⟩ := List.mem_map.mp hm
            have := k.1 c' h1
            subst h2
            split <;> omega
        · rw [if_neg k] at f
          exact f.elim
      | _ => exact f.elim
    | ref n => exact f.elim
    | exn C fs => exact f.elim
theorem occ_size (x : Str) (c : Nat) : ∀ (k lo : Nat) (st : Array Nat × Nat), lo + k = x.length + 1 → st.snd ≤ lo → st.fst.size ≤ lo →
    ((forIn (List.range' lo k) st (StrLaws.occBody x ⟨#[c]⟩ x.length (x.length + 1))).run.fst).size = st.fst.size + (x.cps.toList.drop lo).count c
  | 0, lo, st, h, _, _ => by
    have : (x.cps.toList.drop lo) = [] := List.drop_eq_nil_of_le (by simp [Str.length] at h ⊢; omega)
    rw [this]
    rfl
  | k + 1, lo, st, h, h1, h2 => by
    rw [List.range'_succ, List.forIn_cons]
    by_cases hc : x.cps.toList[lo]? = some c
    · obtain ⟨q1, q2⟩ := (StrLaws.subAt_one x c lo).mpr hc
      have e : StrLaws.occBody x ⟨#[c]⟩ x.length (x.length + 1) lo st = pure (ForInStep.yield (st.fst.push lo, lo + 1)) := by
        unfold StrLaws.occBody
        rw [if_pos ⟨⟨⟨by omega, h1⟩, q1⟩, q2⟩]
        rfl
      rw [e]
      have ih := occ_size x c k (lo + 1) (st.fst.push lo, lo + 1) (by omega) (Nat.le_refl _) (by simp; omega)
      have ih2 : ((forIn (List.range' (lo + 1) k) (st.fst.push lo, lo + 1) (StrLaws.occBody x ⟨#[c]⟩ x.length (x.length + 1))).run.fst).size = (st.fst.push lo).size + (x.cps.toList.drop (lo + 1)).count c := ih
      refine Eq.trans ih2 ?_
      obtain ⟨hlt, hv⟩ := List.getElem?_eq_some_iff.mp hc
      rw [List.drop_eq_getElem_cons hlt, hv, List.count_cons_self]
      simp
      omega
    · have e : StrLaws.occBody x ⟨#[c]⟩ x.length (x.length + 1) lo st = pure (ForInStep.yield (st.fst, st.snd)) := by
        unfold StrLaws.occBody
        rw [if_neg]
        rintro ⟨⟨_, q1⟩, q2⟩
        exact hc ((StrLaws.subAt_one x c lo).mp ⟨q1, q2⟩)
      rw [e]
      have ih := occ_size x c k (lo + 1) (st.fst, st.snd) (by omega) (by omega) (show st.fst.size ≤ lo + 1 by omega)
      refine Eq.trans ih ?_
      by_cases hlt : lo < x.cps.toList.length
      · rw [List.drop_eq_getElem_cons hlt, List.count_cons_of_ne]
        intro z
        exact hc (by rw [List.getElem?_eq_getElem hlt, z])
      · rw [List.drop_eq_nil_of_le (by omega), List.drop_eq_nil_of_le (by omega)]
theorem count_one (a : List Nat) (c : Nat) : Txt.count ⟨a.toArray⟩ ⟨#[c]⟩ = (a.count c : Int) := by
  have h := occ_size ⟨a.toArray⟩ c ((⟨a.toArray⟩ : Str).length + 1) 0 (#[], 0) (by omega) (Nat.le_refl _) (Nat.le_refl _)
  unfold Txt.count
  rw [StrLaws.occ_eq]
  have e : (⟨a.toArray⟩ : Str).length + 1 - 0 = (⟨a.toArray⟩ : Str).length + 1 := rfl
  rw [e, Array.length_toList]
  rw [h]
  simp
theorem ok_scount (own : Bool) : MtR X "str.count" (rdM G pn (methV own .sCount)) := by
  intro pins s σ H v vs w us Q I rv r h
  obtain ⟨W, φ, L, x, xs, hR, rx, rxs, f⟩ := h
  match xs, rxs, f with
  | [], _, f => exact f.elim
  | _ :: _ :: _, _, f => exact f.elim
  | [y], rxs, f =>
    obtain ⟨u, rfl, ru⟩ := RVs.one rxs
    cases x with
    | val d =>
      cases d with
      | str a =>
        cases y with
        | val d =>
          cases d with
          | str b =>
            match b, ru, f with
            | [], _, f => exact f.elim
            | _ :: _ :: _, _, f => exact f.elim
            | [c], ru, f =>
              obtain ⟨rfl, hc, hl⟩ := (show _ = V.str _ ∧ _ from rx)
              obtain ⟨rfl, hc2, hl2⟩ := (show _ = V.str _ ∧ _ from ru)
              refine mt_count pins s σ H _ _ w us Q I rv r ⟨_, _, rfl, rfl, ?_⟩
              have e := count_one a c
              have f' : Fin G (RelV2 G pn) W φ L H Q (.ok (.val (.int (a.count c))) L) := f
              have q := fin_val hR f' (show RD G (Own G φ L) H (.int (a.count c)) (.int (a.count c)) from rfl)
              rw [← e] at q
              exact q
          | _ => exact f.elim
        | ref n => exact f.elim
        | exn C fs => exact f.elim
      | _ => exact f.elim
    | ref n => exact f.elim
    | exn C fs => exact f.elim
end
end PI

set_option maxRecDepth 100000
set_option maxHeartbeats 1000000
namespace PI
open PySem PySem.Spec PyProof.Rows L2
mutual
theorem alike_py : ∀ a b : D, a.cmpb b = true → PySem.W.alike a.py b.py = true
  | .int i, b, h => by cases b <;> first | (simp [D.cmpb] at h; done) | simp [D.py, PySem.W.alike]
  | .str s, b, h => by cases b <;> first | (simp [D.cmpb] at h; done) | simp [D.py, PySem.W.alike]
  | .tup xs, b, h => by
    cases b <;> first | (simp [D.cmpb] at h; done) | skip
    rename_i ys
    simp only [D.py, PySem.W.alike]
    exact alikes_py xs ys h
  | .non, b, h => by simp [D.cmpb] at h
  | .bl _, b, h => by simp [D.cmpb] at h
  | .lst _, b, h => by simp [D.cmpb] at h
  | .dct _, b, h => by simp [D.cmpb] at h
  | .ins _ _, b, h => by simp [D.cmpb] at h
theorem alikes_py : ∀ a b : List D, D.cmpbs a b = true → PySem.W.alikeAll (D.pys a) (D.pys b) = true
  | [], b, _ => by cases b <;> simp [D.pys, PySem.W.alikeAll]
  | x :: xs, [], _ => by simp [D.pys, PySem.W.alikeAll]
  | x :: xs, y :: ys, h => by
    simp only [D.cmpbs, Bool.and_eq_true] at h
    simp only [D.pys, PySem.W.alikeAll, Bool.and_eq_true]
    exact ⟨alike_py x y h.1, alikes_py xs ys h.2⟩
end
mutual
theorem dlt_py : ∀ a b : D, a.cmpb b = true → okd' a = true → okd' b = true → PySem.W.dataLt a.py b.py = a.ltb b
  | .int i, b, h, _, _ => by
    cases b <;> first | (simp [D.cmpb] at h; done) | exact PySem.W.dataLt_int _ _
  | .str s, b, h, _, _ => by
    cases b <;> first | (simp [D.cmpb] at h; done) | (refine (PySem.W.dataLt_str _ _).trans ?_; simp [D.ltb])
  | .tup xs, b, h, k1, k2 => by
    cases b <;> first | (simp [D.cmpb] at h; done) | skip
    rename_i ys
    simp only [D.py]
    rw [PySem.W.dataLt_tuple]
    exact dlts_py xs ys h k1 k2
  | .non, b, h, _, _ => by simp [D.cmpb] at h
  | .bl _, b, h, _, _ => by simp [D.cmpb] at h
  | .lst _, b, h, _, _ => by simp [D.cmpb] at h
  | .dct _, b, h, _, _ => by simp [D.cmpb] at h
  | .ins _ _, b, h, _, _ => by simp [D.cmpb] at h
theorem dlts_py : ∀ a b : List D, D.cmpbs a b = true → okds' a = true → okds' b = true → PyProof.Rows.lexLt PyProof.Rows.itemOrd (PySem.W.keyToksAll (D.pys a)) (PySem.W.keyToksAll (D.pys b)) = D.ltbs a b
  | [], [], _, _, _ => by simp only [D.pys, PySem.W.keyToksAll, D.ltbs]; rfl
  | [], y :: ys, _, _, _ => by
    simp only [D.pys, D.ltbs]
    have := PySem.W.firstLt_toks [] (y.py :: D.pys ys) (by simp [PySem.W.alikeAll])
    rw [← this]
    simp [SeqAt.firstLt]
  | x :: xs, [], _, _, _ => by
    simp only [D.pys, D.ltbs]
    have := PySem.W.firstLt_toks (x.py :: D.pys xs) [] (by simp [PySem.W.alikeAll])
    rw [← this]
    simp [SeqAt.firstLt]
  | x :: xs, y :: ys, h, k1, k2 => by
    simp only [D.cmpbs, Bool.and_eq_true] at h
    simp only [okds', Bool.and_eq_true] at k1 k2
    simp only [D.pys, D.ltbs]
    rw [PySem.W.dataLt_cons (alike_py x y h.1), eqv_py x y k1.1 k2.1, dlts_py xs ys h.2 k1.2 k2.2, dlt_py x y h.1 k1.1 k2.1]
end
section
variable {prog : Program} {w : World} {A : Around} {E : Value → Shared → Prop} {s : Shared}
/-- the call of a tuple's own order, as sorting makes it -/
theorem tup_lt_call {Q : Value → Shared → Prop} {l b : Addr} {items items2 : Array Value} {e r : Nat → Bool} (hl : s.heap.IsTuple l items) (hb : s.heap.IsTuple b items2)
    (he : ∀ j (h1 : j < items.size) (h2 : j < items2.size), SeqAt.EqAt A.in1 s items[j] items2[j] (e j)) (hr : ∀ j (h1 : j < items.size) (h2 : j < items2.size), e j = false → SeqAt.RcLt A.in1 s items[j] items2[j] (r j))
    (h : Q (.bool (SeqAt.firstLt e r (decide (items.size < items2.size)) (List.range (min items.size items2.size)))) s) : wpAny (model prog w) A (PySem.call (.builtin "tuple.__lt__") [.ref l, .ref b]) Q E s := by
  obtain ⟨⟨c1, d1, x1, s1⟩, ho, hc, n, hd⟩ := id hl
  obtain ⟨⟨c2, d2, x2, s2⟩, ho2, hc2, n2, hd2⟩ := id hb
  dsimp only at hc hd hc2 hd2
  subst hc; subst hd; subst hc2; subst hd2
  exact call_meets F.slot_tuple_lt ⟨_, ho, rfl⟩ F.entry_tuple_lt (F.args_tuple_lt_2 _ _) (SeqAt.tuple_ltAt l b items items2 n n2 d1 d2 s1 s2 e r) ⟨ho, ho2, he, hr, h⟩
/-- what stands first in a tuple -/
def TupF (h : Heap) (v : Value) (o : Option Value) : Prop := ∃ a ob xs n, v = .ref a ∧ h.get? a = some ob ∧ ob.cls = .type "tuple" ∧ ob.data = .seq xs n ∧ xs[0]? = o
theorem firsts_go : ∀ {vs : List Value} {fs : List (Option Value)} {Q : List (Option Value) → Shared → Prop}, Paired (TupF s.heap) vs fs → Q fs s → wpAny (model prog w) A (vs.mapM firstOfTuple') Q E s
  | _, _, Q, .nil, h => by rw [List.mapM_nil]; exact wpAny_pure h
  | _, _, Q, .cons (l₁ := vs) (l₂ := fs) (b := f) ⟨a, ob, xs, n, ev, ho, hc, hd, hf⟩ t, h => by
    subst ev
    rw [List.mapM_cons]
    refine wpAny_bind ?_
    rw [PySem.W.kas_first_eq]
    refine wpAny_bind (PySem.W.Looks.here (show PySem.W.Looks (model prog w) s.heap (typeOf (.ref a)) ob.cls from (PySem.W.Looks.ld ho).andThen .now) ?_)
    rw [hc, if_neg (by decide)]
    refine wpAny_bind (listItems_at ho hd (wpAny_pure ?_))
    rw [hf]
    exact wpAny_bind (firsts_go (Q := fun bs s' => wpAny (model prog w) A (pure (f :: bs)) Q E s') t (wpAny_pure h))
theorem kind_go {vs : List Value} {fs : List (Option Value)} {Q : SortKind → Shared → Prop} (t : Paired (TupF s.heap) vs fs) (hne : vs ≠ []) (hno : fs.all (·.isSome) = false) (h : Q (if (fs[0]?.bind id).isSome then general' else oneType') s) : wpAny (model prog w) A (keyKind' vs.toArray) Q E s := by
  rw [keyKind'_eq, List.mapM_toArray, map_eq_pure_bind]
  refine wpAny_bind (wpAny_bind (firsts_go t (wpAny_pure ?_)))
  rw [if_neg (show ¬ (fs.toArray.all fun x => x.isSome) = true by rw [List.all_toArray, hno]; decide)]
  have e0 : fs.toArray[0]? = fs[0]? := by simp
  rw [e0]
  by_cases hf : (fs[0]?.bind id).isSome = true
  · rw [if_pos hf]
    rw [if_pos hf] at h
    exact wpAny_pure h
  · rw [if_neg hf]
    rw [if_neg hf] at h
    obtain ⟨v0, vr, rfl⟩ : ∃ v0 vr, vs = v0 :: vr := by
      cases vs with
      | nil => exact absurd rfl hne
      | cons a b => exact ⟨a, b, rfl⟩
    rw [oneTypeOnly'_eq, List.mapM_toArray, map_eq_pure_bind]
    have ty : ∀ v ∈ v0 :: vr, ∀ (Q' : Value → Shared → Prop), Q' (.type "tuple") s → wpAny (model prog w) A (typeOf v) Q' E s := fun v hv Q' hq => by
      have go : ∀ {vs : List Value} {fs : List (Option Value)}, Paired (TupF s.heap) vs fs → v ∈ vs → ∃ a ob, v = .ref a ∧ s.heap.get? a = some ob ∧ ob.cls = .type "tuple" := fun {vs fs} p => by
        induction p with
        | nil => intro hm; cases hm
        | cons q _ ih =>
          intro hm
          rcases List.mem_cons.mp hm with rfl | hm
          · obtain ⟨a, ob, _, _, e1, e2, e3, _⟩ := q
            exact ⟨a, ob, e1, e2, e3⟩
          · exact ih hm
      obtain ⟨a, ob, rfl, e2, e3⟩ := go t hv
      exact wpAny_typeOf_ref e2 (by rw [e3]; exact hq)
    refine wpAny_bind (wpAny_bind (wpAny_bind (PySem.W.kas_mapM (r := Value.type "tuple") _ ty (wpAny_pure ?_))))
    have h0 : (List.map (fun _ => Value.type "tuple") (v0 :: vr)).toArray[0]? = some (Value.type "tuple") := by simp
    have ha : ((List.map (fun _ => Value.type "tuple") (v0 :: vr)).toArray.all fun x => x == Value.type "tuple") = true := by
      simp only [List.all_toArray, List.all_map, List.all_eq_true]
      exact fun _ _ => beq_self_eq_true _
    rw [h0]
    simp only [ha, if_true]
    exact wpAny_pure (wpAny_pure h)
/-- two tuples, as sorting compares them -/
theorem tup_lt_one {f : Bool} {xs ys : List PyData} {a b : Value} {as bs : List Addr} {Q : Bool → Shared → Prop} (ra : Reads s.heap a (.tuple xs) as) (rb : Reads s.heap b (.tuple ys) bs) (h : PySem.W.alikeAll xs ys = true)
    (hu : A.units + min (PyData.depth (.tuple xs)) (PyData.depth (.tuple ys)) < cLine) (hq : Q (PySem.W.dataLt (.tuple xs) (.tuple ys)) s) : wpAny (model prog w) A (oneLt' f a b) Q E s := by
  cases f with
  | false => exact PySem.W.oneLt_alike (fun z => by cases z) ra rb (by simpa [PySem.W.alike] using h) (by intro z; cases z) hu hq
  | true =>
    cases ra with
    | @tuple l o vs n _ _ h1 h2 h3 h4 =>
      cases rb with
      | @tuple l' o' vs' n' _ _ k1 k2 k3 k4 =>
        have n1 : vs.size = xs.length := by simpa using SeqAt.ReadsAll.length _ _ _ h4
        have n2 : vs'.size = ys.length := by simpa using SeqAt.ReadsAll.length _ _ _ k4
        rw [PySem.W.dataLt_tuple, ← PySem.W.firstLt_toks xs ys h, ← n1, ← n2] at hq
        rw [oneLt'_eq]
        simp only [if_true]
        refine wpAny_bind (wpAny_cRoomFor (SeqAt.room_here hu) (wpAny_bind (wpAny_callSpecialIfBound?_slot (T := "tuple") ⟨_, h1, h2⟩ F.slot_tuple_lt (tup_lt_call (e := SeqAt.pairEq xs ys) (r := fun j => PySem.W.dataLt (xs.getD j .none) (ys.getD j .none)) ⟨_, h1, h2, _, h3⟩ ⟨_, k1, k2, _, k3⟩ (fun j j1 j2 => ?_) (fun j j1 j2 hj => ?_) (wpAny_truthy_bool hq)))))
        · have z := PySem.W.eqAt_alikeAll xs ys A.in1 s vs.toList vs'.toList _ _ h4 k4 h (SeqAt.room_in hu) j (by simpa using j1) (by simpa using j2)
          simpa using z
        · have z := PySem.W.rcLt_alikeAll xs ys A.in1 s vs.toList vs'.toList _ _ h4 k4 h (SeqAt.room_in hu) j (by simpa using j1) (by simpa using j2) hj
          simpa using z
theorem srtOk_at {ds : List D} (h : srtOk ds = true) : ∀ x ∈ ds, D.okd 50 x = true ∧ ∀ y ∈ ds, x.cmpb y = true := fun x hx => by
  unfold srtOk at h
  have := List.all_eq_true.mp h x hx
  simp only [Bool.and_eq_true, List.all_eq_true] at this
  exact ⟨this.1.2, fun y hy => this.2 y hy⟩
theorem pys_map : ∀ ds : List D, D.pys ds = ds.map D.py
  | [] => rfl
  | x :: xs => by simp [D.pys, pys_map xs]
/-- such values can be sorted -/
theorem sorts_gen {vs : List Value} {ds : List D} (e : PySem.W.EachIs (fun v d => ∃ as, Reads s.heap v d as) vs (ds.map D.py)) (hk : srtOk ds = true) (hu : A.units + 52 < cLine) : PySem.W.SortsAt prog w A s (PySem.W.dataKind s.heap (ds.map D.py)) vs := by
  have hal : PySem.W.AllAlike (ds.map D.py) := fun d hd d' hd' => by
    obtain ⟨a, ha, rfl⟩ := List.mem_map.mp hd
    obtain ⟨b, hb, rfl⟩ := List.mem_map.mp hd'
    exact alike_py a b ((srtOk_at hk a ha).2 b hb)
  have room : ∀ d, d ∈ ds.map D.py → A.units + d.depth < cLine := fun d hd => by
    obtain ⟨a, ha, rfl⟩ := List.mem_map.mp hd
    have := okd_depth 50 a (srtOk_at hk a ha).1
    omega
  by_cases hS : PySem.W.Sortable (ds.map D.py)
  · exact PySem.W.SortsAt.data e hal hS room
  · have ex : ∃ d0 ∈ ds, ∃ xs, d0 = D.tup xs := Classical.byContradiction fun z => hS (.inr fun d hd => by
      obtain ⟨a, ha, rfl⟩ := List.mem_map.mp hd
      have hc := (srtOk_at hk a ha).2 a ha
      cases a <;> first | (simp [D.cmpb] at hc; done) | skip
      · exact ⟨by simp [D.py], fun xs q => by simp [D.py] at q⟩
      · exact ⟨by simp [D.py], fun xs q => by simp [D.py] at q⟩
      · exact absurd ⟨_, ha, _, rfl⟩ z)
    obtain ⟨d0, hd0, xs0, rfl⟩ := ex
    have tup : ∀ d ∈ ds, ∃ xs, d = D.tup xs := fun d hd => by
      have hc := (srtOk_at hk d hd).2 _ hd0
      cases d <;> first | (simp [D.cmpb] at hc; done) | exact ⟨_, rfl⟩
    have tupP : ∀ d ∈ ds.map D.py, ∃ xs, d = PyData.tuple xs := fun d hd => by
      obtain ⟨a, ha, rfl⟩ := List.mem_map.mp hd
      obtain ⟨xs, rfl⟩ := tup a ha
      exact ⟨_, rfl⟩
    have pr : ∀ {vs : List Value} {ps : List PyData}, PySem.W.EachIs (fun v d => ∃ as, Reads s.heap v d as) vs ps → (∀ d ∈ ps, ∃ xs, d = PyData.tuple xs) → ∃ fs, Paired (TupF s.heap) vs fs ∧ (fs.all (·.isSome) = true → ∀ d ∈ ps, ∃ x r, d = .tuple (x :: r)) := fun {vs ps} q => by
      induction q with
      | nil => exact fun _ => ⟨[], .nil, fun _ d hd => by cases hd⟩
      | @cons v d vs ps q _ ih =>
        intro hp
        obtain ⟨fs, i1, i2⟩ := ih fun d hd => hp d (List.mem_cons_of_mem _ hd)
        obtain ⟨ys, rfl⟩ := hp d (List.mem_cons_self ..)
        obtain ⟨as, r⟩ := q
        cases r with
        | @tuple a o xs n _ _ h1 h2 h3 h4 =>
          refine ⟨xs[0]? :: fs, .cons ⟨a, o, xs, n, rfl, h1, h2, h3, rfl⟩ i1, fun ha => ?_⟩
          simp only [List.all_cons, Bool.and_eq_true] at ha
          intro d hd
          rcases List.mem_cons.mp hd with rfl | hd
          · cases ys with
            | cons y r => exact ⟨y, r, rfl⟩
            | nil =>
              have n0 : xs.toList = [] := by
                cases h5 : xs.toList with
                | nil => rfl
                | cons a b => rw [h5] at h4; cases h4
              have : xs[0]? = none := by rw [← Array.getElem?_toList, n0]; rfl
              rw [this] at ha
              cases ha.1
          · exact i2 ha.2 d hd
    obtain ⟨fs, p1, p2⟩ := pr e tupP
    have hno : fs.all (·.isSome) = false := by
      cases q : fs.all (·.isSome) with
      | false => rfl
      | true => exact absurd (.inl (p2 q)) hS
    have lt : ∀ f : Bool, ∀ (E : Value → Shared → Prop) (x y : Value) (a b : List (Int ⊕ List Nat)) {Q : Bool → Shared → Prop}, (PySem.W.dataKind s.heap (ds.map D.py)).keyOf x = some a → (PySem.W.dataKind s.heap (ds.map D.py)).keyOf y = some b → Q ((PySem.W.dataKind s.heap (ds.map D.py)).blt a b) s → wpAny (model prog w) A (oneLt' f x y) Q E s := fun f E x y a b Q ha hb hq => by
      obtain ⟨d, as, hd, ra, rfl⟩ := PySem.W.dataKind_inv ha
      obtain ⟨d', as', hd', rb, rfl⟩ := PySem.W.dataKind_inv hb
      have hdd := hal d hd d' hd'
      have r1 := room d hd
      obtain ⟨xs, rfl⟩ := tupP d hd
      obtain ⟨ys, rfl⟩ := tupP d' hd'
      have hq' : Q (PySem.W.dataLt (.tuple xs) (.tuple ys)) s := hq
      exact tup_lt_one ra rb (by simpa [PySem.W.alike] using hdd) (Nat.lt_of_le_of_lt (Nat.add_le_add_left (Nat.min_le_left _ _) _) r1) hq'
    refine ⟨fun v hv => ?_, if (fs[0]?.bind id).isSome then general' else oneType', ?_, fun h2 E Q hq => kind_go p1 (fun z => by subst z; simp at h2) hno hq⟩
    · obtain ⟨d, hd, as, r⟩ := e.left v hv
      exact ⟨_, PySem.W.dataKind_some hal hd r⟩
    · by_cases hf : (fs[0]?.bind id).isSome = true
      · rw [if_pos hf]
        exact fun E x y a b Q ha hb hq => lt false E x y a b ha hb hq
      · rw [if_neg hf]
        exact fun E x y a b Q ha hb hq => lt true E x y a b ha hb hq
/-- what stands in a list or a tuple -/
def SeqIs (h : Heap) (l : Addr) (vs : List Value) : Prop := ∃ o, h.get? l = some o ∧ (o.cls = .type "list" ∨ o.cls = .type "tuple") ∧ ∃ n, o.data = .seq vs.toArray n
theorem collect_seq {l : Addr} {vs : List Value} {Q : List Value → Shared → Prop} (hl : SeqIs s.heap l vs) (hsz : vs.length ≤ sizeLine)
    (h : Q vs { s with heap := (s.heap.push (seqObj "list" #[] 0)).update s.heap.objs.size (Obj.mapSeq (· ++ vs.toArray)) }) : wpAny (model prog w) A (collect (.ref l)) Q E s := by
  obtain ⟨o, ho, hc, n, hd⟩ := hl
  unfold collect; refine wpAny_bind (wpAny_runValue (codeAny_builtin entry_proto_collect' ?_))
  show wpAny _ _ (do again (.builtin "list.__iadd__" ⟨[← newList [], .ref l], []⟩)) _ _ s; refine wpAny_bind (wpAny_newList (wpAny_pure ⟨Code.quiet_builtin _ (by decide +kernel), codeAny_builtin entry_list_iadd' ?_⟩))
  show wpAny _ _ (Builtin.List.listExtendWith (.ref s.heap.objs.size) (.ref l) (.ref s.heap.objs.size)) _ _ { s with heap := s.heap.push (seqObj "list" #[] 0) }; unfold Builtin.List.listExtendWith
  have ho1 : (s.heap.push (seqObj "list" #[] 0)).get? l = some o := Heap.get?_push_of_some _ ho
  have fin : ∀ {T : Value}, (T = .type "list" ∨ T = .type "tuple") → (T == Value.type "list" || T == Value.type "tuple") = true := fun {T} z => by rcases z with rfl | rfl <;> decide +kernel
  refine wpAny_bind (wpAny_typeOf_ref ho1 ?_)
  rw [if_pos (by have := fin hc; simp only [Bool.or_eq_true] at this ⊢; exact this.elim (fun z => .inl (.inr z)) .inr)]
  refine wpAny_bind (listItems_at ho1 hd (wpAny_bind (listItems_at (xs := #[]) (n := 0) (Heap.get?_push_size _ rfl) rfl ?_))); rw [if_neg (by simp)]
  refine wpAny_bind (listUpdate_at (xs := #[]) (n := 0) (Heap.get?_push_size _ rfl) rfl (wpAny_pure ?_) (Nat.zero_le _) (by show (#[] ++ vs.toArray).size ≤ sizeLine + 1; simp only [Array.size_append, List.size_toArray, List.length_nil]; omega))
  show wpAny (model prog w) A (do match (← load s.heap.objs.size).data with | .seq xs _ => pure xs.toList | _ => unsupported "internal:collect") Q E { s with heap := (s.heap.push (seqObj "list" #[] 0)).update s.heap.objs.size (Obj.mapSeq (· ++ vs.toArray)) }
  refine wpAny_bind (wpAny_load (get?_update_seq (Heap.get?_push_size _ rfl) _) ?_); show wpAny _ _ (pure ((#[] : Array Value) ++ vs.toArray).toList) Q E _
  have e : ((#[] : Array Value) ++ vs.toArray).toList = vs := by simp
  rw [e]; exact wpAny_pure h
/-- sorted of a list, of a tuple -/
theorem sorted_seq {l : Addr} {vs : List Value} {κ : PyProof.Rows.KeyKind} {Q : Value → Shared → Prop} (hl : SeqIs s.heap l vs) (S : PySem.W.SortsAt prog w A.in1.in1 { s with heap := PySem.W.sortingHeap (PySem.W.copyHeap s.heap vs) (s.heap.objs.size + 1) vs } κ vs) (hL : vs.length ≤ sizeLine)
    (h : Q (.ref (s.heap.objs.size + 1)) { s with heap := sortedAll s.heap vs (PySem.W.sortVals κ false vs vs).toArray }) : wpAny (model prog w) A (PySem.call (.builtin "sorted") [.ref l]) Q E s := by
  refine Calls.call_function_entry kind_sorted plain_sorted entry_sorted (args_sorted1 _) ?_; unfold Builtin.«sorted»
  refine wpAny_bind (m := checkCount "sorted" 1 1 _) (wpAny_pure (wpAny_bind (collect_seq hl hL (wpAny_bind (wpAny_newList ?_ hL)))))
  have n1 : ((s.heap.push (seqObj "list" #[] 0)).update s.heap.objs.size (Obj.mapSeq (· ++ vs.toArray))).objs.size = s.heap.objs.size + 1 := (Heap.size_update ..).trans (size_push' ..)
  show wpAny _ _ _ _ _ { s with heap := PySem.W.copyHeap s.heap vs }; rw [n1]
  refine wpAny_bind (wpAny_holding (wpAny_call_entry slot_list_sort ⟨_, PySem.W.copyHeap_at s.heap vs, rfl⟩ entry_list_sort ?_ (args_list_sort _)))
  exact PySem.W.list_sort_vals (s := { s with heap := PySem.W.copyHeap s.heap vs }) (PySem.W.copyHeap_at s.heap vs) S hL ⟨_, rfl, wpAny_pure ⟨_, rfl, h⟩⟩
end
end PI
namespace PI
open PySem PySem.Spec PyProof.Rows L2
theorem srt_eq {ds : List D} (hk : srtOk ds = true) : ds.mergeSort (PySem.W.dataLe false D.py) = srt ds := by
  unfold srt
  have h : ∀ a ∈ ds, ∀ b ∈ ds, PySem.W.dataLe false D.py a b = (fun a b : D => !(b.ltb a)) (id a) (id b) := fun a ha b hb => by
    show (!PySem.W.dataLt b.py a.py) = !(b.ltb a)
    rw [dlt_py b a ((srtOk_at hk b hb).2 a ha) (okd_plain 50 b (srtOk_at hk b hb).1) (okd_plain 50 a (srtOk_at hk a ha).1)]
  have := List.map_mergeSort (r := PySem.W.dataLe false D.py) (s := fun a b : D => !(b.ltb a)) (f := id) (l := ds) h
  simpa using this
section
variable {G : Gd} {pn : Pn} {φ : List Addr} {L : LH} {H : Hp} {Q : VK} {X : Cx}
/-- a value of the machine that is the data d -/
def RU (G : Gd) (O : Addr → Prop) (H : Hp) (u : Value) (d : D) : Prop := ∃ v, RelV v u ∧ RD G O H d v
theorem each_of {O : Addr → Prop} : ∀ {ds : List D} {vs : List V} {us : List Value}, RDs G O H ds vs → Vals vs us → PySem.W.EachIs (RU G O H) us ds
  | [], _, us, r, q => by
    cases (show _ = [] from r)
    cases q
    exact .nil
  | d :: ds, _, us, r, q => by
    obtain ⟨v, w, rfl, h1, h2⟩ := r
    cases q with
    | cons q1 q2 => exact .cons ⟨v, q1, h1⟩ (each_of h2 q2)
theorem of_each {O : Addr → Prop} : ∀ {us : List Value} {ds : List D}, PySem.W.EachIs (RU G O H) us ds → ∃ vs, Vals vs us ∧ RDs G O H ds vs
  | _, _, .nil => ⟨[], .nil, rfl⟩
  | _, _, .cons ⟨v, q1, h1⟩ t => by
    obtain ⟨vs, a, b⟩ := of_each t
    exact ⟨v :: vs, .cons q1 a, v, vs, rfl, h1, b⟩
theorem ok_sorted (hX : X.K = G.K) (hu : X.A.units + 64 < cLine) (own : Bool) : CallR X (.builtin "sorted") (rdN G pn (biV own .sorted)) := by
  intro pins s σ H vs us Q I r h
  obtain ⟨W, φ, L, xs, hR, rx, f⟩ := h
  match xs, rx, f with
  | [], _, f => exact f.elim
  | _ :: _ :: _, _, f => exact f.elim
  | [x], rx, f =>
    obtain ⟨v, rfl, ry⟩ := RVs.one rx
    have f : Fin G (RelV2 G pn) W φ L H Q (match x.seq? L with
      | some ys => if srtOk ys then newL own (srt ys) L else .stuck
      | none => .stuck) := f
    cases e : x.seq? L with
    | none => rw [e] at f; exact f.elim
    | some ds =>
      simp only [e] at f
      by_cases hk : srtOk ds = true
      · rw [if_pos hk] at f
        obtain ⟨a, ws, rfl, t, rs⟩ := RV.seq hR ry e
        obtain ⟨u, rfl, ru⟩ := vals1 r
        cases (show u = Value.ref a from ru)
        obtain ⟨its, rv, hs, hz⟩ : ∃ its : List Value, Vals ws its ∧ SeqIs s.heap a its ∧ ws.length ≤ sizeLine := by
          rcases t with t | t
          · obtain ⟨its, rv, ⟨o, n, e1, e2, _, e3⟩, hz⟩ := I.list (X := X) (.inl t)
            exact ⟨its, rv, ⟨o, e1, .inl e2, n, e3⟩, hz⟩
          · obtain ⟨its, rv, ⟨o, e1, e2, n, e3⟩, hz⟩ := I.tuple (X := X) (by rw [hX]; exact t)
            exact ⟨its, rv, ⟨o, e1, .inr e2, n, e3⟩, hz⟩
        have E1 := each_of rs rv
        have er : PySem.W.EachIs (fun v b => ∃ as, Reads s.heap v (D.py b) as) its ds := (PySem.W.each_mem E1).mono fun u d ⟨⟨v, q1, q2⟩, hm⟩ => Dp.reads I _ _ u (by rw [hX]; exact RD.dp d v q2 (okd_plain 50 d (srtOk_at hk d hm).1)) q1
        have er2 : PySem.W.EachIs (fun v b => ∃ as, Reads (PySem.W.sortingHeap (PySem.W.copyHeap s.heap its) (s.heap.objs.size + 1) its) v (D.py b) as) its ds := er.mono fun _ _ ⟨as, q⟩ => ⟨as, PyProof.Rows.Reads.keeps (fun _ _ => PySem.W.sorting_copy_old) q⟩
        have hal : PySem.W.AllAlike (ds.map D.py) := fun d hd d' hd' => by
          obtain ⟨a, ha, rfl⟩ := List.mem_map.mp hd
          obtain ⟨b, hb, rfl⟩ := List.mem_map.mp hd'
          exact alike_py a b ((srtOk_at hk a ha).2 b hb)
        have out := PySem.W.sortVals_data false E1 er2 hal
        rw [srt_eq hk] at out
        obtain ⟨vs', q1, q2⟩ := of_each out
        have hl : its.length ≤ sizeLine := by rw [← rv.length]; exact hz
        refine sorted_seq hs (sorts_gen (s := { s with heap := PySem.W.sortingHeap (PySem.W.copyHeap s.heap its) (s.heap.objs.size + 1) its }) (PySem.W.each_map (R := fun v d => ∃ as, Reads (PySem.W.sortingHeap (PySem.W.copyHeap s.heap its) (s.heap.objs.size + 1) its) v d as) D.py er2) hk (by show X.A.units + 1 + 1 + 52 < _; omega)) hl ?_
        obtain ⟨ep, he'⟩ := PyProof.Rows.sortedAll_at s.heap its (PySem.W.sortVals (PySem.W.dataKind (PySem.W.sortingHeap (PySem.W.copyHeap s.heap its) (s.heap.objs.size + 1) its) (ds.map D.py)) false its its).toArray
        obtain ⟨h3, h4⟩ := fin_newL hR f q2
        exact ⟨.ref _, upd H (s.heap.objs.size + 1) (.lst vs'), I.laid (t' := s.toks) (fun _ _ => PyProof.Rows.sortedAll_old) (Nat.le_succ _) ⟨h3, _, ep, q1, he'⟩, rfl, h4 _ (I.hok.fresh (Nat.le_succ _))⟩
      · rw [if_neg hk] at f; exact f.elim
end
end PI

set_option maxRecDepth 100000
set_option maxHeartbeats 1000000
namespace PI
open PySem PySem.Spec PyProof.Rows L2

/-- an exception that leaves -/
def RXe (G : Gd) (O : Addr → Prop) (H : Hp) (C : Nat) (fs : List (Nat × D)) (cls : Value) (d : Option Addr) : Prop :=
  cls = .ref (G.cn C) ∧ ((∃ dd gs, d = some dd ∧ (H dd = some (.xd gs) ∧ ¬ O dd) ∧ RDf G O H fs gs) ∨ (fs = [] ∧ d = none))
abbrev WT := Nat → List (Nat × D) → List Addr → LH → Hp → Prop
def WEx (G : Gd) (W : WX) (σ : L2.St) : WT := fun C fs φ L H => ∀ cls d, RXe G (Own G φ L) H C fs cls d → W cls d σ H
/-- the slots -/
def RSl (G : Gd) (pn : Pn) (φ : List Addr) (O : Addr → Prop) (H : Hp) (sl : SL) (σ : L2.St) : Prop :=
  sl.length = σ.length ∧ ∀ (i : Nat) (x : V2), sl[i]? = some (some x) → ∃ v, σ[i]? = some (some v) ∧ RV G pn φ O H x v
theorem RSl.go {G : Gd} {pn : Pn} {φ φ' : List Addr} {L L' : LH} {H H' : Hp} {sl : SL} {σ : L2.St} (e : Ext G φ L H φ' L' H') (h : RSl G pn φ (Own G φ L) H sl σ) : RSl G pn φ' (Own G φ' L') H' sl σ :=
  ⟨h.1, fun i x q => let ⟨v, a, b⟩ := h.2 i x q; ⟨v, a, RV.go e b⟩⟩
theorem RSl.set {G : Gd} {pn : Pn} {φ : List Addr} {O : Addr → Prop} {H : Hp} {sl : SL} {σ : L2.St} (h : RSl G pn φ O H sl σ) (i : Nat) {x : V2} {v : V} (r : RV G pn φ O H x v) : RSl G pn φ O H (sl.set i (some x)) (σ.set i (some v)) := by
  refine ⟨by simp [h.1], fun j y q => ?_⟩
  by_cases hj : i = j
  · subst hj
    by_cases hl : i < sl.length
    · rw [List.getElem?_set_self hl] at q
      cases q
      exact ⟨v, List.getElem?_set_self (by rw [← h.1]; exact hl), r⟩
    · rw [List.getElem?_eq_none (by simpa using hl)] at q; cases q
  · rw [List.getElem?_set_ne hj] at q
    obtain ⟨u, a, b⟩ := h.2 j y q
    exact ⟨u, by rw [List.getElem?_set_ne hj]; exact a, b⟩
def rdE (G : Gd) (pn : Pn) (W : WX) (f : SL → LH → R V2) : TE := fun σ H Q => ∃ (φ : List Addr) (sl : SL) (L : LH), HR G φ L H ∧ RSl G pn φ (Own G φ L) H sl σ ∧ Fin G (RelV2 G pn) (WEx G W σ) φ L H Q (f sl L)
def rdT (G : Gd) (pn : Pn) (W : WX) (f : SL → LH → R Bool) : TT := fun σ H Q => ∃ (φ : List Addr) (sl : SL) (L : LH), HR G φ L H ∧ RSl G pn φ (Own G φ L) H sl σ ∧ Fin G (fun _ _ _ a b => a = b) (WEx G W σ) φ L H Q (f sl L)
abbrev RelVs (G : Gd) (pn : Pn) : List Addr → LH → Hp → List V2 → List V → Prop := fun φ L H xs vs => RVs G pn φ (Own G φ L) H xs vs
def rdA (G : Gd) (pn : Pn) (W : WX) (f : SL → LH → R (List V2)) : TA := fun σ H Q => ∃ (φ : List Addr) (sl : SL) (L : LH), HR G φ L H ∧ RSl G pn φ (Own G φ L) H sl σ ∧ Fin G (RelVs G pn) (WEx G W σ) φ L H Q (f sl L)
def rdK (G : Gd) (pn : Pn) (W : WX) (f : SL → LH → R (List (Nat × V2))) : TA := fun σ H Q => ∃ (φ : List Addr) (sl : SL) (L : LH), HR G φ L H ∧ RSl G pn φ (Own G φ L) H sl σ ∧ Fin G (fun φ L H xs vs => RVs G pn φ (Own G φ L) H (xs.map (·.2)) vs) (WEx G W σ) φ L H Q (f sl L)
def rdP (G : Gd) (pn : Pn) (W : WX) (f : SL → LH → R (Option Int)) : L2.TO := fun σ H Q => ∃ (φ : List Addr) (sl : SL) (L : LH), HR G φ L H ∧ RSl G pn φ (Own G φ L) H sl σ ∧ Fin G (fun _ _ _ a b => a = b) (WEx G W σ) φ L H Q (f sl L)

theorem _root_.L2.PE.imp {X : Cx} {e : Expr} {t t' : TE} (h : PE X e t) (k : ∀ σ H Q, t' σ H Q → t σ H Q) : PE X e t' := ⟨fun pins s σ H Q I q => h.run pins s σ H Q I (k σ H Q q)⟩
theorem _root_.L2.PT.imp {X : Cx} {e : Expr} {t t' : TT} (h : PT X e t) (k : ∀ σ H Q, t' σ H Q → t σ H Q) : PT X e t' := ⟨fun pins s σ H Q I q => h.run pins s σ H Q I (k σ H Q q)⟩
theorem _root_.L2.PA.imp {X : Cx} {e : List Expr} {t t' : TA} (h : PA X e t) (k : ∀ σ H Q, t' σ H Q → t σ H Q) : PA X e t' := ⟨fun pos pins s σ H Q I q => h.run pos pins s σ H Q I (k σ H Q q)⟩
theorem _root_.L2.PS.imp {X : Cx} {e : Stmt} {t t' : TS} (h : PS X e t) (k : ∀ D σ H, t' D σ H → t D σ H) : PS X e t' := ⟨fun pins s σ H D I q => h.run pins s σ H D I (k D σ H q)⟩
theorem _root_.L2.PSs.imp {X : Cx} {e : List Stmt} {t t' : TS} (h : PSs X e t) (k : ∀ D σ H, t' D σ H → t D σ H) : PSs X e t' := ⟨fun pins s σ H D I q => h.run pins s σ H D I (k D σ H q)⟩

section
variable {G : Gd} {pn : Pn} {W : WX} {φ : List Addr} {L : LH} {H : Hp} {σ : L2.St} {sl : SL}
/-- what follows a part -/
theorem bindG {α β γ δ : Type} {RA : List Addr → LH → Hp → α → β → Prop} {RB : List Addr → LH → Hp → γ → δ → Prop} {Wt : WT} {Q : δ → Hp → Prop} {r : R α} {g : α → LH → R γ} (h : Fin G RB Wt φ L H Q (r.bind g)) :
    Fin G RA Wt φ L H (fun v H1 => ∃ (φ1 : List Addr) (L1 : LH) (x : α), HR G φ1 L1 H1 ∧ Ext G φ L H φ1 L1 H1 ∧ RA φ1 L1 H1 x v ∧ Fin G RB Wt φ1 L1 H1 Q (g x L1)) r := by
  cases r with
  | ok x L1 => exact fun φ1 v H1 h1 e1 r1 => ⟨φ1, L1, x, h1, e1, r1, Fin.ext e1 h⟩
  | exc C fs L1 => exact h
  | stuck => exact h
/-- an expression, then more -/
theorem bindE {γ δ : Type} {RB : List Addr → LH → Hp → γ → δ → Prop} {Q : δ → Hp → Prop} {f : SL → LH → R V2} {g : V2 → LH → R γ} (hR : HR G φ L H) (hS : RSl G pn φ (Own G φ L) H sl σ) (h : Fin G RB (WEx G W σ) φ L H Q ((f sl L).bind g)) :
    rdE G pn W f σ H (fun v H1 => ∃ (φ1 : List Addr) (L1 : LH) (x : V2), HR G φ1 L1 H1 ∧ Ext G φ L H φ1 L1 H1 ∧ RV G pn φ1 (Own G φ1 L1) H1 x v ∧ RSl G pn φ1 (Own G φ1 L1) H1 sl σ ∧ Fin G RB (WEx G W σ) φ1 L1 H1 Q (g x L1)) := by
  refine ⟨φ, sl, L, hR, hS, ?_⟩
  have q := bindG (RA := RelV2 G pn) h
  cases e : f sl L with
  | ok x L1 =>
    rw [e] at q
    exact fun φ' v H' h1 e1 r1 => by
      obtain ⟨φ1, L1', x1, a1, a2, a3, a4⟩ := q φ' v H' h1 e1 r1
      exact ⟨φ1, L1', x1, a1, a2, a3, hS.go a2, a4⟩
  | exc C fs L1 => rw [e] at q; exact q
  | stuck => rw [e] at q; exact q
theorem bindA {γ δ : Type} {RB : List Addr → LH → Hp → γ → δ → Prop} {Q : δ → Hp → Prop} {f : SL → LH → R (List V2)} {g : List V2 → LH → R γ} (hR : HR G φ L H) (hS : RSl G pn φ (Own G φ L) H sl σ) (h : Fin G RB (WEx G W σ) φ L H Q ((f sl L).bind g)) :
    rdA G pn W f σ H (fun v H1 => ∃ (φ1 : List Addr) (L1 : LH) (x : List V2), HR G φ1 L1 H1 ∧ Ext G φ L H φ1 L1 H1 ∧ RVs G pn φ1 (Own G φ1 L1) H1 x v ∧ RSl G pn φ1 (Own G φ1 L1) H1 sl σ ∧ Fin G RB (WEx G W σ) φ1 L1 H1 Q (g x L1)) := by
  refine ⟨φ, sl, L, hR, hS, ?_⟩
  have q := bindG (RA := RelVs G pn) h
  cases e : f sl L with
  | ok x L1 =>
    rw [e] at q
    exact fun φ' v H' h1 e1 r1 => by
      obtain ⟨φ1, L1', x1, a1, a2, a3, a4⟩ := q φ' v H' h1 e1 r1
      exact ⟨φ1, L1', x1, a1, a2, a3, hS.go a2, a4⟩
  | exc C fs L1 => rw [e] at q; exact q
  | stuck => rw [e] at q; exact q
theorem bindK {γ δ : Type} {RB : List Addr → LH → Hp → γ → δ → Prop} {Q : δ → Hp → Prop} {f : SL → LH → R (List (Nat × V2))} {g : List (Nat × V2) → LH → R γ} (hR : HR G φ L H) (hS : RSl G pn φ (Own G φ L) H sl σ) (h : Fin G RB (WEx G W σ) φ L H Q ((f sl L).bind g)) :
    rdK G pn W f σ H (fun v H1 => ∃ (φ1 : List Addr) (L1 : LH) (x : List (Nat × V2)), HR G φ1 L1 H1 ∧ Ext G φ L H φ1 L1 H1 ∧ RVs G pn φ1 (Own G φ1 L1) H1 (x.map (·.2)) v ∧ RSl G pn φ1 (Own G φ1 L1) H1 sl σ ∧ Fin G RB (WEx G W σ) φ1 L1 H1 Q (g x L1)) := by
  refine ⟨φ, sl, L, hR, hS, ?_⟩
  have q := bindG (RA := fun φ L H xs vs => RVs G pn φ (Own G φ L) H (xs.map (·.2)) vs) h
  cases e : f sl L with
  | ok x L1 =>
    rw [e] at q
    exact fun φ' v H' h1 e1 r1 => by
      obtain ⟨φ1, L1', x1, a1, a2, a3, a4⟩ := q φ' v H' h1 e1 r1
      exact ⟨φ1, L1', x1, a1, a2, a3, hS.go a2, a4⟩
  | exc C fs L1 => rw [e] at q; exact q
  | stuck => rw [e] at q; exact q
theorem bindP' {γ δ : Type} {RB : List Addr → LH → Hp → γ → δ → Prop} {Q : δ → Hp → Prop} {f : SL → LH → R (Option Int)} {g : Option Int → LH → R γ} (hR : HR G φ L H) (hS : RSl G pn φ (Own G φ L) H sl σ) (h : Fin G RB (WEx G W σ) φ L H Q ((f sl L).bind g)) :
    rdP G pn W f σ H (fun v H1 => ∃ (φ1 : List Addr) (L1 : LH), HR G φ1 L1 H1 ∧ Ext G φ L H φ1 L1 H1 ∧ RSl G pn φ1 (Own G φ1 L1) H1 sl σ ∧ Fin G RB (WEx G W σ) φ1 L1 H1 Q (g v L1)) := by
  refine ⟨φ, sl, L, hR, hS, ?_⟩
  have q := bindG (RA := fun _ _ _ a b => a = b) h
  cases e : f sl L with
  | ok x L1 =>
    rw [e] at q
    exact fun φ' v H' h1 e1 r1 => by
      obtain ⟨φ1, L1', x1, a1, a2, a3, a4⟩ := q φ' v H' h1 e1 r1
      exact ⟨φ1, L1', a1, a2, hS.go a2, by rw [← a3]; exact a4⟩
  | exc C fs L1 => rw [e] at q; exact q
  | stuck => rw [e] at q; exact q
theorem bindT {γ δ : Type} {RB : List Addr → LH → Hp → γ → δ → Prop} {Q : δ → Hp → Prop} {f : SL → LH → R Bool} {g : Bool → LH → R γ} (hR : HR G φ L H) (hS : RSl G pn φ (Own G φ L) H sl σ) (h : Fin G RB (WEx G W σ) φ L H Q ((f sl L).bind g)) :
    rdT G pn W f σ H (fun v H1 => ∃ (φ1 : List Addr) (L1 : LH), HR G φ1 L1 H1 ∧ Ext G φ L H φ1 L1 H1 ∧ RSl G pn φ1 (Own G φ1 L1) H1 sl σ ∧ Fin G RB (WEx G W σ) φ1 L1 H1 Q (g v L1)) := by
  refine ⟨φ, sl, L, hR, hS, ?_⟩
  have q := bindG (RA := fun _ _ _ a b => a = b) h
  cases e : f sl L with
  | ok x L1 =>
    rw [e] at q
    exact fun φ' v H' h1 e1 r1 => by
      obtain ⟨φ1, L1', x1, a1, a2, a3, a4⟩ := q φ' v H' h1 e1 r1
      exact ⟨φ1, L1', a1, a2, hS.go a2, by rw [← a3]; exact a4⟩
  | exc C fs L1 => rw [e] at q; exact q
  | stuck => rw [e] at q; exact q
end

section
variable {G : Gd} {pn : Pn} {φ : List Addr} {L : LH} {H : Hp} {X : Cx}
theorem isEmpty_rds {O : Addr → Prop} {ds : List D} {vs : List V} (r : RDs G O H ds vs) : ds.isEmpty = vs.isEmpty := by
  cases ds with
  | nil => cases (show vs = [] from r); rfl
  | cons x xs => obtain ⟨v, q, rfl, _⟩ := r; rfl
theorem isEmpty_rdk {O : Addr → Prop} {ds : List (D × D)} {vs : List (Key × V)} (r : RDk G O H ds vs) : ds.isEmpty = vs.isEmpty := by
  cases ds with
  | nil => cases (show vs = [] from r); rfl
  | cons x xs => obtain ⟨z, v, q, rfl, _⟩ := r; rfl
theorem truth_ok (h : HR G φ L H) {x : V2} {v : V} {k : Bool} (r : RV G pn φ (Own G φ L) H x v) (e : x.truth L = some k) : TruV G.K v H k := by
  cases x with
  | val d =>
    cases d with
    | non => cases (show v = V.non from r); exact (Option.some.inj e).symm
    | bl b => cases (show v = V.bl b from r); exact (Option.some.inj e).symm
    | int i => cases (show v = V.int i from r); exact (Option.some.inj e).symm
    | str s =>
      obtain ⟨rfl, hc, hl⟩ := (show _ = V.str _ ∧ _ from r)
      refine ⟨by rw [← lim_eq]; show s.toArray.size ≤ lim; simpa using hl, ?_⟩
      have e2 : k = !s.isEmpty := (Option.some.inj e).symm
      rw [e2]
      cases s <;> simp [Str.length]
      omega
    | tup xs =>
      obtain ⟨a, vs, rfl, t, rs⟩ := r
      exact .inr (.inl ⟨vs, t.sq, by rw [← isEmpty_rds rs]; exact (Option.some.inj e).symm⟩)
    | lst xs =>
      obtain ⟨a, vs, rfl, t, rs⟩ := r
      exact .inl ⟨vs, t.sq, by rw [← isEmpty_rds rs]; exact (Option.some.inj e).symm⟩
    | dct kvs =>
      obtain ⟨a, ks, rfl, t, rs⟩ := r
      exact .inr (.inr ⟨ks, t.1, by rw [← isEmpty_rdk rs]; exact (Option.some.inj e).symm⟩)
    | ins C fs => cases e
  | ref n =>
    cases hn : L[n]? with
    | none => simp [V2.truth, hn] at e
    | some o =>
      cases o with
      | lst xs =>
        obtain ⟨a, vs, rfl, ha, hH, rs⟩ := RV.own h r hn
        simp only [V2.truth, hn] at e
        exact .inl ⟨vs, SqL.of hH, by rw [← isEmpty_rds rs]; exact (Option.some.inj e).symm⟩
      | dct kvs =>
        obtain ⟨a, rfl, ha⟩ := r
        obtain ⟨ks, hH, rs⟩ := h.at_ n _ a hn ha
        simp only [V2.truth, hn] at e
        exact .inr (.inr ⟨ks, hH, by rw [← isEmpty_rdk rs]; exact (Option.some.inj e).symm⟩)
      | _ => simp [V2.truth, hn] at e
  | exn C fs => cases e
end
end PI

set_option maxRecDepth 100000
set_option maxHeartbeats 1000000
namespace PI
open PySem PySem.Spec PyProof.Rows L2

/-- the tables: names by number; which are defs, which are values; built-in names that the module leaves alone -/
structure Tb where
  nm : Nat → Str
  fns : List Nat
  globs : List Nat
  free : List Str
  cls : List Nat
  excs : List Nat
def visB (sc : Scope) (x : Str) : Bool := match sc.names.lookup x with
  | some .local => true
  | some .cell => true
  | some .free => true
  | _ => false
def locB (sc : Scope) (x : Str) : Bool := match sc.names.lookup x with
  | some .local => true
  | _ => false
def glB (sc : Scope) (x : Str) : Bool := match sc.names.lookup x with
  | some .globalImplicit => true
  | _ => false
def dbgB (x : Str) : Bool := x == ("__debug__" : Str)
def cdB (x : Str) : Bool := x == ("__classdict__" : Str)
def constB : D → Const → Bool
  | .non, .none => true
  | .bl b, .bool c => b == c
  | .int i, .int j => decide (i = j)
  | .str s, .str z => decide (z = ⟨s.toArray⟩) && s.all (fun c => decide (c < 0x110000)) && decide (s.length ≤ lim)
  | _, _ => false
def notStar : Expr → Bool
  | .Starred _ _ => false
  | _ => true
def notSet : Expr → Bool
  | .Set _ _ _ => false
  | _ => true
def notSlice : Expr → Bool
  | .Slice _ _ _ _ => false
  | _ => true
/-- no call without arguments: super() -/
def notCall0 : Expr → Bool
  | .Call (.Name _ _) [] [] _ => false
  | _ => true
def BI.name : BI → String
  | .len => "len"
  | .int => "int"
  | .all => "all"
  | .any => "any"
  | .sorted => "sorted"
  | .list => "list"
  | .tuple => "tuple"
  | .sum => "sum"
  | .abs => "abs"
  | .min => "min"
  | .max => "max"
  | .repr => "repr"
  | .set => "set"
  | .str => "str"
  | .dict => "dict"
/-- the built-ins that are served -/
def BI.on : BI → Bool
  | .len => true
  | .int => true
  | .all => true
  | .any => true
  | .list => true
  | .tuple => true
  | .sum => true
  | .max => true
  | .min => true
  | .abs => true
  | .sorted => true
  | _ => false
def MI.name : MI → String
  | .lAppend => "append" | .lInsert => "insert" | .lPop => "pop" | .lPopAt => "pop" | .lIndex => "index" | .lCount => "count" | .lExtend => "extend" | .lReverse => "reverse" | .lClear => "clear" | .lRemove => "remove" | .lCopy => "copy"
  | .sUpper => "upper" | .sCount => "count" | .sFind => "find" | .sJoin => "join" | .sSplit => "split" | .sIslower => "islower" | .sIsalpha => "isalpha" | .sReplace => "replace" | .sStartswith => "startswith" | .sRstrip => "rstrip" | .sIndex => "index" | .sPartition => "partition" | .dGet => "get" | .dKeys => "keys"
def MI.on : MI → Bool
  | .lAppend => true
  | .lInsert => true
  | .lPop => true
  | .lPopAt => true
  | .lReverse => true
  | .sFind => true
  | .sUpper => true
  | .sCount => true
  | _ => false
def icB (T : Tb) (sc : Scope) : IC → Expr → Bool
  | .ty n, .Name x _ => decide (x = Str.ofString n) && T.free.contains x && glB sc x && !dbgB x && decide (x ≠ ("__name__" : Str)) && ["int", "str", "bool", "list", "tuple", "dict", "ValueError"].contains n
  | .own C, .Name x _ => decide (x = T.nm C) && T.cls.contains C && glB sc x && !dbgB x
  | _, _ => false
def icsB (T : Tb) (sc : Scope) : List IC → List Expr → Bool
  | [], [] => true
  | c :: cs, e :: es => icB T sc c e && icsB T sc cs es
  | _, _ => false
def celB (sc : Scope) (x : Str) : Bool := match sc.names.lookup x with
  | some .cell => true
  | _ => false
/-- a target of a loop, of an assignment; c: a cell may be one -/
def nmB (c : Bool) (sc : Scope) (N : List Str) (i : Nat) : Expr → Bool
  | .Name x _ => decide (N[i]? = some x) && (locB sc x || (c && celB sc x))
  | _ => false
def nmsB (c : Bool) (sc : Scope) (N : List Str) : List Nat → List Expr → Bool
  | [], [] => true
  | i :: is, e :: es => nmB c sc N i e && nmsB c sc N is es
  | _, _ => false
def tgB (c : Bool) (sc : Scope) (N : List Str) : ITg → Expr → Bool
  | .nm i, e => nmB c sc N i e
  | .tp is, .Tuple es _ _ => nmsB c sc N is es
  | _, _ => false
def ITg.slots : ITg → List Nat
  | .nm i => [i]
  | .tp is => is
def ownOf (tg : ITg) (N : List Str) : List (Str × Nat) := tg.slots.map fun i => (N.getD i ⟨#[]⟩, i)

/-- the parts of what a for walks -/
def itArgs (T : Tb) (sc : Scope) : IK → Expr → Option (List Expr)
  | .over, x => if notStar x then some [x] else none
  | .range, .Call (.Name x _) args [] _ => if decide (x = ("range" : Str)) && T.free.contains x && glB sc x && (decide (args.length = 1) || decide (args.length = 2)) then some args else none
  | _, _ => none
mutual
def okE (T : Tb) : IE → Scope → List Str → Expr → Bool
  | .c d, _, _, .Constant k _ _ => constB d k
  | .v i, sc, N, .Name x _ => decide (N[i]? = some x) && visB sc x && !dbgB x && !cdB x
  | .g g, sc, _, .Name x _ => decide (x = T.nm g) && T.globs.contains g && glB sc x && !dbgB x
  | .tup es, sc, N, .Tuple xs _ _ => okEs T es sc N xs
  | .lst _ es, sc, N, .List xs _ => okEs T es sc N xs
  | .bin op _ a b, sc, N, .BinOp x o y _ => decide (o = op.py) && okE T a sc N x && okE T b sc N y
  | .neg a, sc, N, .UnaryOp .USub x _ => okE T a sc N x
  | .cmp op a b, sc, N, .Compare x [o] [y] _ => decide (o = op.py) && okE T a sc N x && okE T b sc N y && notSet y
  | .chain o1 o2 a b d, sc, N, .Compare x [p1, p2] [y, z] _ => decide (p1 = o1.py) && decide (p2 = o2.py) && okE T a sc N x && okE T b sc N y && okE T d sc N z && notSet z
  | .and a b, sc, N, .BoolOp .And (x :: y :: r) pos => okE T a sc N x && (match r with
    | [] => okE T b sc N y
    | _ => okE T b sc N (.BoolOp .And (y :: r) pos))
  | .or a b, sc, N, .BoolOp .Or (x :: y :: r) pos => okE T a sc N x && (match r with
    | [] => okE T b sc N y
    | _ => okE T b sc N (.BoolOp .Or (y :: r) pos))
  | .not a, sc, N, .UnaryOp .Not x _ => okE T a sc N x
  | .ife t a b, sc, N, .IfExp x y z _ => okE T t sc N x && okE T a sc N y && okE T b sc N z
  | .sub a i, sc, N, .Subscript x y _ => okE T a sc N x && okE T i sc N y && notSlice y
  | .slice _ a lo hi, sc, N, .Subscript x (.Slice l h none _) _ => okE T a sc N x && okP T lo sc N l && okP T hi sc N h
  | .rev _ a, sc, N, .Subscript x (.Slice none none (some (.UnaryOp .USub (.Constant (.int 1) _ _) _)) _) _ => okE T a sc N x
  | .call _ f es ks, sc, N, .Call (.Name x _) args kws _ => decide (x = T.nm f) && T.fns.contains f && glB sc x && !dbgB x && okEs T es sc N args && okKs T ks sc N kws
  | .bi _ b es, sc, N, .Call (.Name x _) args [] _ => b.on && decide (x = Str.ofString b.name) && T.free.contains x && glB sc x && !dbgB x && okEs T es sc N args && !args.isEmpty
  | .isi e cs, sc, N, .Call (.Name x _) [y, z] [] _ => decide (x = ("isinstance" : Str)) && T.free.contains x && glB sc x && okE T e sc N y && (match cs, z with
    | [c], .Name _ _ => icB T sc c z
    | cs, .Tuple zs _ _ => icsB T sc cs zs
    | _, _ => false)
  | .comp _ elt tg k it ts, sc, N, .ListComp e [⟨t, i, ifs, 0⟩] scope _ => L2.blkC N sc scope (ownOf tg N) && tgB false (relS scope sc) N tg t && (match itArgs T sc k i with
      | some xs => okEs T it sc N xs
      | none => false) && okEs T ts (relS scope sc) N ifs && decide (ifs.length ≤ 1) && okE T elt (relS scope sc) N e && notSet i
      && decide (tg.slots.Nodup)
  | .meth _ m e es, sc, N, .Call (.Attribute x name apos) args [] cpos => m.on && decide (name = Str.ofString m.name) && (apos.endLine == cpos.line) && notCall0 x && okE T e sc N x && okEs T es sc N args && decide (args.length < 20)
  | .fld e f, sc, N, .Attribute x name _ => decide (name = T.nm f) && notCall0 x && okE T e sc N x
  | .dnew _, _, _, .Dict [] [] _ => true
  | _, _, _, _ => false
def okEs (T : Tb) : List IE → Scope → List Str → List Expr → Bool
  | [], _, _, [] => true
  | e :: es, sc, N, x :: xs => okE T e sc N x && notStar x && okEs T es sc N xs
  | _, _, _, _ => false
def okKs (T : Tb) : List (Nat × IE) → Scope → List Str → List Keyword → Bool
  | [], _, _, [] => true
  | (k, e) :: es, sc, N, ⟨some n, x, _⟩ :: xs => decide (n = T.nm k) && okE T e sc N x && okKs T es sc N xs
  | _, _, _, _ => false
def okP (T : Tb) : Option IE → Scope → List Str → Option Expr → Bool
  | none, _, _, none => true
  | some e, sc, N, some x => okE T e sc N x
  | _, _, _, _ => false
end
/-- a for's walk -/
def okIt (T : Tb) (k : IK) (it : List IE) (sc : Scope) (N : List Str) (x : Expr) : Bool := match itArgs T sc k x with
  | some xs => okEs T it sc N xs
  | none => false
end PI

set_option maxRecDepth 100000
set_option maxHeartbeats 1000000
namespace PI
open PySem PySem.Spec PyProof.Rows L2
theorem visB_ok {sc : Scope} {x : Str} (h : visB sc x = true) : Vis sc x := by
  unfold visB at h
  split at h
  · exact .inl (by assumption)
  · exact .inr (.inl (by assumption))
  · exact .inr (.inr (by assumption))
  · cases h
theorem locB_ok {sc : Scope} {x : Str} (h : locB sc x = true) : sc.names.lookup x = some .local := by
  unfold locB at h
  split at h
  · assumption
  · cases h
theorem glB_ok {sc : Scope} {x : Str} (h : glB sc x = true) : sc.names.lookup x = some .globalImplicit := by
  unfold glB at h
  split at h
  · assumption
  · cases h
theorem celB_ok {sc : Scope} {x : Str} (h : celB sc x = true) : sc.names.lookup x = some .cell := by
  unfold celB at h
  split at h
  · assumption
  · cases h
theorem nt {b : Bool} (h : (!b) = true) : b = false := by cases b <;> simp_all
theorem a1 {a b : Bool} (h : (a && b) = true) : a = true := (Bool.and_eq_true _ _ ▸ h : a = true ∧ b = true).1
theorem a2 {a b : Bool} (h : (a && b) = true) : b = true := (Bool.and_eq_true _ _ ▸ h : a = true ∧ b = true).2
theorem ff {p : Prop} (h : false = true) : p := by cases h
section
variable {T : Tb} {sc : Scope} {N : List Str} {x : Expr}
theorem okE_c {d : D} : okE T (.c d) sc N x = true → ∃ k j p, x = .Constant k j p ∧ constB d k = true := by
  cases x <;> first | exact fun h => ff h | skip
  exact fun h => ⟨_, _, _, rfl, h⟩
theorem okE_v {i : Nat} : okE T (.v i) sc N x = true → ∃ y p, x = .Name y p ∧ N[i]? = some y ∧ Vis sc y ∧ dbgB y = false ∧ cdB y = false := by
  cases x <;> first | exact fun h => ff h | skip
  exact fun h => ⟨_, _, rfl, of_decide_eq_true (a1 (a1 (a1 h))), visB_ok (a2 (a1 (a1 h))), nt (a2 (a1 h)), nt (a2 h)⟩
theorem okE_g {i : Nat} : okE T (.g i) sc N x = true → ∃ y p, x = .Name y p ∧ y = T.nm i ∧ i ∈ T.globs ∧ sc.names.lookup y = some .globalImplicit ∧ dbgB y = false := by
  cases x <;> first | exact fun h => ff h | skip
  exact fun h => ⟨_, _, rfl, of_decide_eq_true (a1 (a1 (a1 h))), by simpa using a2 (a1 (a1 h)), glB_ok (a2 (a1 h)), nt (a2 h)⟩
theorem okE_tup {es : List IE} : okE T (.tup es) sc N x = true → ∃ xs j p, x = .Tuple xs j p ∧ okEs T es sc N xs = true := by
  cases x <;> first | exact fun h => ff h | skip
  exact fun h => ⟨_, _, _, rfl, h⟩
theorem okE_lst {w : Bool} {es : List IE} : okE T (.lst w es) sc N x = true → ∃ xs p, x = .List xs p ∧ okEs T es sc N xs = true := by
  cases x <;> first | exact fun h => ff h | skip
  exact fun h => ⟨_, _, rfl, h⟩
theorem okE_bin {op : OpB} {w : Bool} {a b : IE} : okE T (.bin op w a b) sc N x = true → ∃ y o z p, x = .BinOp y o z p ∧ o = op.py ∧ okE T a sc N y = true ∧ okE T b sc N z = true := by
  cases x <;> first | exact fun h => ff h | skip
  exact fun h => ⟨_, _, _, _, rfl, of_decide_eq_true (a1 (a1 h)), a2 (a1 h), a2 h⟩
theorem okE_neg {a : IE} : okE T (.neg a) sc N x = true → ∃ y p, x = .UnaryOp .USub y p ∧ okE T a sc N y = true := by
  cases x <;> first | exact fun h => ff h | skip
  intro h
  rename_i o y p
  cases o <;> first | exact ff h | exact ⟨_, _, rfl, h⟩
theorem okE_not {a : IE} : okE T (.not a) sc N x = true → ∃ y p, x = .UnaryOp .Not y p ∧ okE T a sc N y = true := by
  cases x <;> first | exact fun h => ff h | skip
  intro h
  rename_i o y p
  cases o <;> first | exact ff h | exact ⟨_, _, rfl, h⟩
theorem okE_cmp {op : OpC} {a b : IE} : okE T (.cmp op a b) sc N x = true → ∃ y o z p, x = .Compare y [o] [z] p ∧ o = op.py ∧ okE T a sc N y = true ∧ okE T b sc N z = true ∧ notSet z = true := by
  cases x <;> first | exact fun h => ff h | skip
  intro h
  rename_i y os zs p
  match os, zs, h with
  | [], _, h => exact ff h
  | [_], [], h => exact ff h
  | [_], [_], h => exact ⟨_, _, _, _, rfl, of_decide_eq_true (a1 (a1 (a1 h))), a2 (a1 (a1 h)), a2 (a1 h), a2 h⟩
  | [_], _ :: _ :: _, h => exact ff h
  | _ :: _ :: _, _, h => exact ff h
theorem okE_chain {o1 o2 : OpC} {a b d : IE} : okE T (.chain o1 o2 a b d) sc N x = true → ∃ y p1 p2 z w p, x = .Compare y [p1, p2] [z, w] p ∧ p1 = o1.py ∧ p2 = o2.py ∧ okE T a sc N y = true ∧ okE T b sc N z = true ∧ okE T d sc N w = true ∧ notSet w = true := by
  cases x <;> first | exact fun h => ff h | skip
  intro h
  rename_i y os zs p
  match os, zs, h with
  | [], _, h => exact ff h
  | [_], _, h => exact ff h
  | [_, _], [], h => exact ff h
  | [_, _], [_], h => exact ff h
  | [_, _], [_, _], h => exact ⟨_, _, _, _, _, _, rfl, of_decide_eq_true (a1 (a1 (a1 (a1 (a1 h))))), of_decide_eq_true (a2 (a1 (a1 (a1 (a1 h))))), a2 (a1 (a1 (a1 h))), a2 (a1 (a1 h)), a2 (a1 h), a2 h⟩
  | [_, _], _ :: _ :: _ :: _, h => exact ff h
  | _ :: _ :: _ :: _, _, h => exact ff h
theorem okE_and {a b : IE} : okE T (.and a b) sc N x = true → ∃ y z r p, x = .BoolOp .And (y :: z :: r) p ∧ okE T a sc N y = true ∧ ((r = [] ∧ okE T b sc N z = true) ∨ okE T b sc N (.BoolOp .And (z :: r) p) = true) := by
  cases x <;> first | exact fun h => ff h | skip
  intro h
  rename_i o ys p
  match o, ys, h with
  | .And, [], h => exact ff h
  | .Or, [], h => exact ff h
  | .And, [_], h => exact ff h
  | .Or, [_], h => exact ff h
  | .And, [_, _], h => exact ⟨_, _, _, _, rfl, a1 h, .inl ⟨rfl, a2 h⟩⟩
  | .And, _ :: _ :: _ :: _, h => exact ⟨_, _, _, _, rfl, a1 h, .inr (a2 h)⟩
  | .Or, _ :: _ :: _, h => exact ff h
theorem okE_or {a b : IE} : okE T (.or a b) sc N x = true → ∃ y z r p, x = .BoolOp .Or (y :: z :: r) p ∧ okE T a sc N y = true ∧ ((r = [] ∧ okE T b sc N z = true) ∨ okE T b sc N (.BoolOp .Or (z :: r) p) = true) := by
  cases x <;> first | exact fun h => ff h | skip
  intro h
  rename_i o ys p
  match o, ys, h with
  | .And, [], h => exact ff h
  | .Or, [], h => exact ff h
  | .And, [_], h => exact ff h
  | .Or, [_], h => exact ff h
  | .Or, [_, _], h => exact ⟨_, _, _, _, rfl, a1 h, .inl ⟨rfl, a2 h⟩⟩
  | .Or, _ :: _ :: _ :: _, h => exact ⟨_, _, _, _, rfl, a1 h, .inr (a2 h)⟩
  | .And, _ :: _ :: _, h => exact ff h
theorem okE_ife {t a b : IE} : okE T (.ife t a b) sc N x = true → ∃ y z w p, x = .IfExp y z w p ∧ okE T t sc N y = true ∧ okE T a sc N z = true ∧ okE T b sc N w = true := by
  cases x <;> first | exact fun h => ff h | skip
  exact fun h => ⟨_, _, _, _, rfl, a1 (a1 h), a2 (a1 h), a2 h⟩
theorem okE_sub {a i : IE} : okE T (.sub a i) sc N x = true → ∃ y z p, x = .Subscript y z p ∧ okE T a sc N y = true ∧ okE T i sc N z = true ∧ notSlice z = true := by
  cases x <;> first | exact fun h => ff h | skip
  exact fun h => ⟨_, _, _, rfl, a1 (a1 h), a2 (a1 h), a2 h⟩
theorem okE_slice {w : Bool} {a : IE} {lo hi : Option IE} : okE T (.slice w a lo hi) sc N x = true → ∃ y l u p q, x = .Subscript y (.Slice l u none p) q ∧ okE T a sc N y = true ∧ okP T lo sc N l = true ∧ okP T hi sc N u = true := by
  cases x <;> first | exact fun h => ff h | skip
  intro h
  rename_i y z p
  cases z <;> first | exact ff h | skip
  rename_i l u st q
  cases st with
  | some _ => exact ff h
  | none => exact ⟨_, _, _, _, _, rfl, a1 (a1 h), a2 (a1 h), a2 h⟩
theorem okE_rev {w : Bool} {a : IE} : okE T (.rev w a) sc N x = true → ∃ y k p1 p2 p3 q, x = .Subscript y (.Slice none none (some (.UnaryOp .USub (.Constant (.int 1) k p1) p2)) p3) q ∧ okE T a sc N y = true := by
  cases x <;> first | exact fun h => ff h | skip
  intro h
  rename_i y z p
  match z, h with
  | .Slice none none (some (.UnaryOp .USub (.Constant (.int 1) _ _) _)) _, h => exact ⟨_, _, _, _, _, _, rfl, h⟩
theorem okE_call {w : Bool} {f : Nat} {es : List IE} {ks : List (Nat × IE)} : okE T (.call w f es ks) sc N x = true → ∃ y p args kws q, x = .Call (.Name y p) args kws q ∧ y = T.nm f ∧ f ∈ T.fns ∧ sc.names.lookup y = some .globalImplicit ∧ dbgB y = false ∧ okEs T es sc N args = true ∧ okKs T ks sc N kws = true := by
  cases x <;> first | exact fun h => ff h | skip
  intro h
  rename_i g args kws q
  cases g <;> first | exact ff h | skip
  exact ⟨_, _, _, _, _, rfl, of_decide_eq_true (a1 (a1 (a1 (a1 (a1 h))))), by simpa using a2 (a1 (a1 (a1 (a1 h)))), glB_ok (a2 (a1 (a1 (a1 h)))), nt (a2 (a1 (a1 h))), a2 (a1 h), a2 h⟩
theorem okE_bi {w : Bool} {b : BI} {es : List IE} : okE T (.bi w b es) sc N x = true → ∃ y p args q, x = .Call (.Name y p) args [] q ∧ b.on = true ∧ y = Str.ofString b.name ∧ y ∈ T.free ∧ sc.names.lookup y = some .globalImplicit ∧ dbgB y = false ∧ okEs T es sc N args = true ∧ args ≠ [] := by
  cases x <;> first | exact fun h => ff h | skip
  intro h
  rename_i g args kws q
  cases g <;> first | exact ff h | skip
  cases kws <;> first | exact ff h | skip
  exact ⟨_, _, _, _, rfl, a1 (a1 (a1 (a1 (a1 (a1 h))))), of_decide_eq_true (a2 (a1 (a1 (a1 (a1 (a1 h)))))), by simpa using a2 (a1 (a1 (a1 (a1 h)))), glB_ok (a2 (a1 (a1 (a1 h)))), nt (a2 (a1 (a1 h))), a2 (a1 h), fun z => by subst z; exact ff (a2 h)⟩
theorem okE_meth {w : Bool} {m : MI} {e : IE} {es : List IE} : okE T (.meth w m e es) sc N x = true → ∃ y n ap args cp, x = .Call (.Attribute y n ap) args [] cp ∧ m.on = true ∧ n = Str.ofString m.name ∧ (ap.endLine == cp.line) = true ∧ notCall0 y = true ∧ okE T e sc N y = true ∧ okEs T es sc N args = true ∧ args.length < 20 := by
  cases x <;> first | exact fun h => ff h | skip
  intro h
  rename_i g args kws q
  cases g <;> first | exact ff h | skip
  cases kws <;> first | exact ff h | skip
  exact ⟨_, _, _, _, _, rfl, a1 (a1 (a1 (a1 (a1 (a1 h))))), of_decide_eq_true (a2 (a1 (a1 (a1 (a1 (a1 h)))))), a2 (a1 (a1 (a1 (a1 h)))), a2 (a1 (a1 (a1 h))), a2 (a1 (a1 h)), a2 (a1 h), of_decide_eq_true (a2 h)⟩
theorem okE_isi {e : IE} {cs : List IC} : okE T (.isi e cs) sc N x = true → ∃ y p z v q, x = .Call (.Name y p) [z, v] [] q ∧ y = ("isinstance" : Str) ∧ y ∈ T.free ∧ sc.names.lookup y = some .globalImplicit ∧ okE T e sc N z = true ∧ ((∃ d, cs = [d] ∧ icB T sc d v = true) ∨ (∃ vs j r, v = .Tuple vs j r ∧ icsB T sc cs vs = true)) := by
  cases x <;> first | exact fun h => ff h | skip
  intro h
  rename_i g args kws q
  cases g <;> first | exact ff h | skip
  match args, kws, h with
  | [z, v], [], h =>
    refine ⟨_, _, _, _, _, rfl, of_decide_eq_true (a1 (a1 (a1 (a1 h)))), by simpa using a2 (a1 (a1 (a1 h))), glB_ok (a2 (a1 (a1 h))), a2 (a1 h), ?_⟩
    have h2 := a2 h
    split at h2
    · exact .inl ⟨_, rfl, h2⟩
    · exact .inr ⟨_, _, _, rfl, h2⟩
    · exact ff h2
  | [], _, h => exact ff h
  | [_], _, h => exact ff h
  | _ :: _ :: _ :: _, _, h => exact ff h
  | [_, _], _ :: _, h => exact ff h
theorem okE_comp {w : Bool} {elt : IE} {tg : ITg} {k : IK} {it ts : List IE} : okE T (.comp w elt tg k it ts) sc N x = true → ∃ e t i ifs scope p xs, x = .ListComp e [⟨t, i, ifs, 0⟩] scope p ∧ L2.blkC N sc scope (ownOf tg N) = true ∧ tgB false (relS scope sc) N tg t = true ∧ itArgs T sc k i = some xs ∧ okEs T it sc N xs = true ∧ okEs T ts (relS scope sc) N ifs = true ∧ ifs.length ≤ 1 ∧ okE T elt (relS scope sc) N e = true ∧ notSet i = true ∧ tg.slots.Nodup := by
  cases x <;> first | exact fun h => ff h | skip
  intro h
  rename_i e gs scope p
  match gs, h with
  | [], h => exact ff h
  | ⟨t, i, ifs, 0⟩ :: [], h =>
    have h3 := a2 (a1 (a1 (a1 (a1 (a1 h)))))
    cases e : itArgs T sc k i with
    | none => rw [e] at h3; exact ff h3
    | some xs => rw [e] at h3; exact ⟨_, _, _, _, _, _, _, rfl, a1 (a1 (a1 (a1 (a1 (a1 (a1 h)))))), a2 (a1 (a1 (a1 (a1 (a1 (a1 h)))))), e, h3, a2 (a1 (a1 (a1 (a1 h)))), of_decide_eq_true (a2 (a1 (a1 (a1 h)))), a2 (a1 (a1 h)), a2 (a1 h), of_decide_eq_true (a2 h)⟩
  | ⟨t, i, ifs, Nat.succ n⟩ :: [], h => exact ff h
  | ⟨t, i, ifs, 0⟩ :: _ :: _, h => exact ff h
  | ⟨t, i, ifs, Nat.succ n⟩ :: _ :: _, h => exact ff h
theorem okE_fld {e : IE} {f : Nat} : okE T (.fld e f) sc N x = true → ∃ y n p, x = .Attribute y n p ∧ n = T.nm f ∧ notCall0 y = true ∧ okE T e sc N y = true := by
  cases x <;> first | exact fun h => ff h | skip
  exact fun h => ⟨_, _, _, rfl, of_decide_eq_true (a1 (a1 h)), a2 (a1 h), a2 h⟩
theorem okE_dnew {w : Bool} : okE T (.dnew w) sc N x = true → ∃ p, x = .Dict [] [] p := by
  cases x <;> first | exact fun h => ff h | skip
  intro h
  rename_i ks vs p
  match ks, vs, h with
  | [], [], h => exact ⟨_, rfl⟩
end
end PI

set_option maxRecDepth 100000
set_option maxHeartbeats 2000000
namespace PI
open PySem PySem.Spec PyProof.Rows L2
theorem pmkN {X : Cx} {CX : CXT} {x : Str} {C fI : Addr} {k : Nat} {fd : FuncData} {ps : List Str} {sp : Sp} {e : Expr} {es : List Expr} {ta : TA} {p pos : Pos} (T : OexC X.K C) (at_ : PySem.W.findIn X.K (.ref C) "__init__" = some (some (.ref fI))) (ty : PySem.W.typeIn X.K (.ref fI) = some (.type "function"))
    (Fn1 : FnOk X.prog X.w X.K X.mg X.base CX k fI fd ps sp) (room : Room (k + 1) X.A) (bd : Binds X.K fd ps []) (no : Passes CX X fun _ _ _ => False) (gl : Gl X x) (mgx : X.mg x = some (.ref C)) (args : PA X (e :: es) ta)
    (dbg : (x == ("__debug__" : Str)) = false) (st : starEach (e :: es) X.env = (false, eval e X.env) :: starEach es X.env) (plain : (backTo pos (starEach es X.env)).any (·.1) = false) : L2N.PMk X (.Call (.Name x p) (e :: es) [] pos) (tMkO C sp [] ta) := by
  intro pins s σ H Q I0 h0
  obtain ⟨_, _, _, _, bm, _, _, _, _, _, _, _, _, _, _, cls1, cls2⟩ := T.cls
  refine wpAny_Call_Name_kw (ld_glob I0 gl mgx (PySem.W.callWith_K (h₀ := X.base) I0.ok.mod.kin T.kC (thn (args.run pos pins s σ H _ I0 h0) fun us s1 hs1 => ?_) st plain) dbg)
  obtain ⟨vs, H1, I1, r1, hz, q1⟩ := hs1
  refine ⟨I1.kIn, ?_⟩
  obtain ⟨hp, gs, dr, tk, os⟩ := s1
  let a := hp.objs.size + 1
  let hp2 := (hp.push (PySem.W.kdv_tup us)).push (PySem.HandSPX.excO C hp.objs.size)
  have grows : ∀ b o, hp.get? b = some o → hp2.get? b = some o := fun b o q => Heap.get?_push_of_some _ (Heap.get?_push_of_some _ q)
  have there : hp2.get? a = some (PySem.HandSPX.excO C hp.objs.size) := by
    show ((hp.push (PySem.W.kdv_tup us)).push (PySem.HandSPX.excO C hp.objs.size)).get? (hp.objs.size + 1) = _
    heap_get
  have below : hp.objs.size ≤ a := Nat.le_succ _
  have wish := q1 a (I1.hok.fresh below)
  rw [List.append_nil] at wish
  have I2 : Inv X pins σ (upd H1 a (exo a C none)) ⟨hp2, gs, dr, tk, os⟩ := I1.laid (t' := tk) grows below (exo_ok there)
  have r2 : Vals (V.ref a :: vs) (Value.ref a :: us) := .cons rfl r1
  have len2 : (Value.ref a :: us ++ []).length = ps.length := by
    rw [List.append_nil, ← r2.length]
    exact Fn1.len _ _ _ _ wish
  have few : us.length ≤ sizeLine := by
    rw [← r1.length, sizeLine_eq]
    omega
  have bd2 := bd ⟨hp2, gs, dr, tk, os⟩ (Value.ref a :: us) I2.kIn len2
  rw [List.append_nil] at bd2
  have go := Fn1.run (X.A.under (.builtin "type.__call__" ⟨.ref C :: us, []⟩)) X.stack ⟨hp2, gs, dr, tk, os⟩ _ ⟨Value.ref a :: us, []⟩ (Value.ref a :: us) _ _ _ (room.make C us []) (I2.env0.make C us []) bd2 r2 wish
  refine wpAny_call (PySem.HandSPX.call_own F.excBase_ValueError (fun Y => PySem.HandSPX.refsVE_contains Y bm cls2) (I1.kIn _ _ cls1) (PySem.W.looks_findIn I1.kIn at_) (fun self => PySem.W.bind_fn I1.kIn self ty) few (codeAny_mono go fun r s2 hr => ?_))
  cases r with
  | error er => exact no pins σ _ _ er s2 I2 hr
  | ok fl =>
    cases fl with
    | ret u =>
      obtain ⟨v, H2, o2, b2, u2, k2, rv, ev, d, fs, ea, ed, hd1, q2⟩ := hr
      subst ev
      obtain ⟨h2, g2, d2, t2, os2⟩ := s2
      obtain ⟨t0, G0, J, kG, ge, hoe, na⟩ := mk_end0 (d2 := d2) (t2 := t2) I1 below grows u2 k2 o2 b2 ea ed hd1
      exact ⟨rv, a, _, _, ⟨G0, g2, d2, t2, os2⟩, _, .ref C, some d, rfl, J, kG, ge, hoe, ⟨rfl, rfl, fun vs hv => by cases hv; rfl⟩, rfl, rfl, na, rfl, b2, raises_own T.exC T.tyC, q2⟩
    | _ => exact False.elim hr
end PI

set_option maxRecDepth 100000
set_option maxHeartbeats 2000000
namespace PI
open PySem PySem.Spec PyProof.Rows L2
/-- self.f = p, .. -/
def initB (N : List Str) (sc : Scope) : List (Str × Nat) → List Stmt → Bool
  | [], [] => true
  | (f, i) :: r, .Assign [.Attribute (.Name s _) g _] (.Name p _) _ :: b => decide (N[0]? = some s) && visB sc s && !dbgB s && !cdB s && decide (g = f) && decide (N[i]? = some p) && visB sc p && !dbgB p && !cdB p && initB N sc r b
  | _, _ => false
/-- what is stored -/
def putF (σ : L2.St) : List (Str × Nat) → List (Str × V) → List (Str × V)
  | [], acc => acc
  | (f, i) :: r, acc => putF σ r ((f, match σ[i]? with
    | some (some y) => y
    | _ => V.non) :: acc)
theorem upd_upd (H : Hp) (a : Addr) (u v : HO) : upd (upd H a u) a v = upd H a v := by
  funext b
  by_cases e : b = a
  · subst e; rw [upd_same, upd_same]
  · rw [upd_ne e, upd_ne e, upd_ne e]
/-- the stores behind the first -/
def tRest (K : PySem.W.Frag) (l : List (Str × Nat)) : TS := fun D σ H => ∃ (a C dx : Addr) (acc : List (Str × V)), σ[0]? = some (some (.ref a)) ∧ OexC K C ∧ (∀ p ∈ l, PySem.W.findIn K (.ref C) p.1 = some none) ∧ (∀ p ∈ l, ∃ y, σ[p.2]? = some (some y)) ∧ H a = some (exo a C (some dx)) ∧ H dx = some (exd dx acc) ∧ dx ≠ a ∧ acc.length + l.length ≤ 900 ∧
  D.nx σ (upd H dx (exd dx (putF σ l acc)))
theorem upd_id {H : Hp} {a : Addr} {u : HO} (h : H a = some u) : upd H a u = H := by
  funext b
  by_cases e : b = a
  · subst e; rw [upd_same, h]
  · rw [upd_ne e]
section
variable {X : Cx}
theorem pss_rest : ∀ {l : List (Str × Nat)} {b : List Stmt}, initB X.N X.env.scope l b = true → PSs X b (tRest X.K l)
  | [], [], _ => pss_nil.imp fun D σ H ⟨a, C, dx, acc, _, _, _, _, _, h6, _, _, q⟩ => by
    show D.nx σ H
    rw [show putF σ [] acc = acc from rfl, upd_id h6] at q
    exact q
  | [], _ :: _, h => ff h
  | (f, i) :: r, b, h => by
    cases b with
    | nil => exact ff h
    | cons s b =>
      cases s <;> first | exact ff h | skip
      rename_i ts v pos
      match ts, v, h with
      | [.Attribute (.Name s sp) g ap], .Name p pp, h =>
        have k1 := a1 h
        have k2 := a1 k1
        have k3 := a1 k2
        have k4 := a1 k3
        have k5 := a1 k4
        have k6 := a1 k5
        have k7 := a1 k6
        have k8 := a1 k7
        have e1 : X.N[0]? = some s := of_decide_eq_true (a1 k8)
        have e2 : Vis X.env.scope s := visB_ok (a2 k8)
        have e3 := nt (a2 k7)
        have e4 := nt (a2 k6)
        have e5 : g = f := of_decide_eq_true (a2 k5)
        have e6 : X.N[i]? = some p := of_decide_eq_true (a2 k4)
        have e7 : Vis X.env.scope p := visB_ok (a2 k3)
        have e8 := nt (a2 k2)
        have e9 := nt (a2 k1)
        subst e5
        refine (pss_cons (ps_ost (pe_var e1 e2 e3 e4) (pe_var e6 e7 e8 e9)) (pss_rest (a2 h))).imp fun D σ H ⟨a, C, dx, acc, g1, g2, g3, g4, g5, g6, g7, g8, q⟩ => ?_
        obtain ⟨y, hy⟩ := g4 (g, i) (List.mem_cons_self ..)
        refine ⟨y, hy, .ref a, g1, a, C, rfl, g2, g3 (g, i) (List.mem_cons_self ..), .inr ⟨dx, acc, g5, g6, by simp at g8; omega, ?_⟩⟩
        refine ⟨a, C, dx, (g, y) :: acc, g1, g2, fun p hp => g3 p (List.mem_cons_of_mem _ hp), fun p hp => g4 p (List.mem_cons_of_mem _ hp), ?_, upd_same, g7, by simp at g8 ⊢; omega, ?_⟩
        · rw [upd_ne (Ne.symm g7)]
          exact g5
        · rw [upd_upd]
          have : putF σ ((g, i) :: r) acc = putF σ r ((g, y) :: acc) := by simp [putF, hy]
          rw [← this]
          exact q
end
end PI

set_option maxRecDepth 100000
set_option maxHeartbeats 2000000
namespace PI
open PySem PySem.Spec PyProof.Rows L2
theorem upd_comm {H : Hp} {a b : Addr} {u v : HO} (h : a ≠ b) : upd (upd H a u) b v = upd (upd H b v) a u := by
  funext c
  by_cases e : c = a
  · subst e; rw [upd_ne h, upd_same, upd_same]
  · by_cases e2 : c = b
    · subst e2; rw [upd_same, upd_ne e, upd_same]
    · rw [upd_ne e2, upd_ne e, upd_ne e, upd_ne e2]
def tInit (K : PySem.W.Frag) (l : List (Str × Nat)) : TS := fun D σ H => ∃ (a C : Addr), σ[0]? = some (some (.ref a)) ∧ OexC K C ∧ (∀ p ∈ l, PySem.W.findIn K (.ref C) p.1 = some none) ∧ (∀ p ∈ l, ∃ y, σ[p.2]? = some (some y)) ∧ H a = some (exo a C none) ∧ l.length ≤ 900 ∧
  ∀ dx, H dx = none → dx ≠ a → D.nx σ (upd (upd H dx (exd dx (putF σ l []))) a (exo a C (some dx)))
theorem pss_init {X : Cx} {f : Str} {i : Nat} {r : List (Str × Nat)} : ∀ {b : List Stmt}, initB X.N X.env.scope ((f, i) :: r) b = true → PSs X b (tInit X.K ((f, i) :: r))
  | [], h => ff h
  | s :: b, h => by
    cases s <;> first | exact ff h | skip
    rename_i ts v pos
    match ts, v, h with
    | [.Attribute (.Name s sp) g ap], .Name p pp, h =>
      have k1 := a1 h
      have k2 := a1 k1
      have k3 := a1 k2
      have k4 := a1 k3
      have k5 := a1 k4
      have k6 := a1 k5
      have k7 := a1 k6
      have k8 := a1 k7
      have e5 : g = f := of_decide_eq_true (a2 k5)
      subst e5
      refine (pss_cons (ps_ost (pe_var (of_decide_eq_true (a1 k8)) (visB_ok (a2 k8)) (nt (a2 k7)) (nt (a2 k6))) (pe_var (of_decide_eq_true (a2 k4)) (visB_ok (a2 k3)) (nt (a2 k2)) (nt (a2 k1)))) (pss_rest (a2 h))).imp fun D σ H ⟨a, C, g1, g2, g3, g4, g5, g6, q⟩ => ?_
      obtain ⟨y, hy⟩ := g4 (g, i) (List.mem_cons_self ..)
      refine ⟨y, hy, .ref a, g1, a, C, rfl, g2, g3 (g, i) (List.mem_cons_self ..), .inl ⟨g5, fun dx hd hne => ?_⟩⟩
      refine ⟨a, C, dx, [(g, y)], g1, g2, fun p hp => g3 p (List.mem_cons_of_mem _ hp), fun p hp => g4 p (List.mem_cons_of_mem _ hp), upd_same, by rw [upd_ne hne, upd_same], hne, by simp at g6 ⊢; omega, ?_⟩
      have e : putF σ ((g, i) :: r) [] = putF σ r [(g, y)] := by simp [putF, hy]
      have := q dx hd hne
      rw [e] at this
      rw [upd_comm (Ne.symm hne), upd_upd]
      exact this
/-- what it stores, by the arguments -/
def fldF (vs : List V) : List (Str × Nat) → List (Str × V) → List (Str × V)
  | [], acc => acc
  | (f, i) :: r, acc => fldF vs r ((f, vs.getD i .non) :: acc)
theorem putF_start {N : List Str} {vs : List V} : ∀ {l : List (Str × Nat)} {acc : List (Str × V)}, (∀ p ∈ l, p.2 < vs.length) → putF (L2.start N vs) l acc = fldF vs l acc
  | [], _, _ => rfl
  | (f, i) :: r, acc, h => by
    have hi : i < vs.length := h (f, i) (List.mem_cons_self ..)
    have : (L2.start N vs)[i]? = some (some vs[i]) := by
      unfold L2.start
      rw [List.getElem?_append_left (by simpa using hi), List.getElem?_map, List.getElem?_eq_getElem hi]
      rfl
    simp only [putF, fldF, this]
    rw [putF_start fun p hp => h p (List.mem_cons_of_mem _ hp)]
    simp [List.getD_eq_getElem?_getD, hi]
def spInit (K : PySem.W.Frag) (n : Nat) (l : List (Str × Nat)) : Sp := fun vs H Q _ => vs.length = n ∧ ∃ (a C : Addr) (ys : List V), vs = .ref a :: ys ∧ OexC K C ∧ (∀ p ∈ l, PySem.W.findIn K (.ref C) p.1 = some none) ∧ H a = some (exo a C none) ∧
  ∀ dx, H dx = none → dx ≠ a → Q .non (upd (upd H dx (exd dx (fldF vs l []))) a (exo a C (some dx)))
theorem init_ok {P : Program} {w : World} {K : PySem.W.Frag} {mg : Str → Option Value} {base : Heap} {x qual : Str} {params : Arguments} {body : List Stmt} {scope : Scope} {f : Addr} {fd : FuncData} {N ps : List Str} {k : Nat} {g : Str} {i : Nat} {r : List (Str × Nat)}
    (F : FunD K x qual params body scope [] [] f fd) (S : FnScope N ps scope) (hb : initB N scope ((g, i) :: r) body = true) (hn : r.length < 900) (hi : ∀ p ∈ (g, i) :: r, p.2 < ps.length) : FnOk P w K mg base CX0 (k + 1) f fd ps (spInit K ps.length ((g, i) :: r)) := by
  refine F.ok S (fun vs H Q E q => q.1) fun cdv A outer s H vs Q E hr ⟨hl, a, C, ys, hv, o, fi, ha, q⟩ => ⟨_, pss_init hb, a, C, ?_, o, fi, fun p hp => ?_, ha, by simp; omega, fun dx hd hne => ?_⟩
  · subst hv
    rfl
  · have hp2 : p.2 < vs.length := by rw [hl]; exact hi p hp
    exact ⟨vs[p.2], by
      unfold L2.start
      rw [List.getElem?_append_left (by simpa using hp2), List.getElem?_map, List.getElem?_eq_getElem hp2]
      rfl⟩
  · have hp : ∀ p ∈ (g, i) :: r, p.2 < vs.length := fun p hp => by rw [hl]; exact hi p hp
    rw [putF_start hp]
    exact q dx hd hne
theorem fldF_self (a b : V) (vs : List V) : ∀ {l : List (Str × Nat)} {acc : List (Str × V)}, (∀ p ∈ l, 0 < p.2) → fldF (a :: vs) l acc = fldF (b :: vs) l acc
  | [], _, _ => rfl
  | (f, i) :: r, acc, h => by
    have hi : 0 < i := h (f, i) (List.mem_cons_self ..)
    obtain ⟨j, rfl⟩ : ∃ j, i = j + 1 := ⟨i - 1, by omega⟩
    simp only [fldF]
    rw [fldF_self a b vs fun p hp => h p (List.mem_cons_of_mem _ hp)]
    rfl
theorem pa_mono {X : Cx} {es : List Expr} {t : TA} (h : PA X es t) : PA X es (fun σ H Q => ∃ Q0, t σ H Q0 ∧ ∀ vs H', Q0 vs H' → Q vs H') :=
  ⟨fun pos pins s σ H Q I ⟨Q0, q, m⟩ => thn (h.run pos pins s σ H Q0 I q) fun us s1 ⟨vs, H1, I1, r, z⟩ => ⟨vs, H1, I1, r, m vs H1 z⟩⟩
/-- C(e, ..), an own class that stores its arguments -/
theorem pmk_store {X : Cx} {x : Str} {C fI : Addr} {k : Nat} {fd : FuncData} {ps : List Str} {e : Expr} {es : List Expr} {ta : TA} {p pos : Pos} {l : List (Str × Nat)} (T : OexC X.K C) (at_ : PySem.W.findIn X.K (.ref C) "__init__" = some (some (.ref fI))) (ty : PySem.W.typeIn X.K (.ref fI) = some (.type "function"))
    (Fn1 : FnOk X.prog X.w X.K X.mg X.base CX0 k fI fd ps (spInit X.K ps.length l)) (fi : ∀ p ∈ l, PySem.W.findIn X.K (.ref C) p.1 = some none) (pos_ : ∀ p ∈ l, 0 < p.2) (room : Room (k + 1) X.A) (bd : Binds X.K fd ps []) (gl : Gl X x) (mgx : X.mg x = some (.ref C)) (args : PA X (e :: es) ta)
    (dbg : (x == ("__debug__" : Str)) = false) (st : starEach (e :: es) X.env = (false, eval e X.env) :: starEach es X.env) (plain : (backTo pos (starEach es X.env)).any (·.1) = false) :
    L2N.PMk X (.Call (.Name x p) (e :: es) [] pos) (fun σ H Q => ta σ H fun vs H1 => vs.length ≤ 1000 ∧ vs.length + 1 = ps.length ∧ ∀ d, H1 d = none → Q (.ref C) (some d) (upd H1 d (.xd (fldF (.non :: vs) l [])))) := by
  intro pins s σ H Q I h
  refine pmkN T at_ ty Fn1 room bd pass0 gl mgx (pa_mono args) dbg st plain pins s σ H Q I ⟨_, h, fun vs H1 ⟨h1, h2, h3⟩ => ⟨h1, fun a ha => ?_⟩⟩
  rw [List.append_nil]
  refine ⟨by simp; omega, a, C, vs, rfl, T, fi, upd_same, fun dx hd hne => ?_⟩
  have hd1 : H1 dx = none := by rw [upd_ne hne] at hd; exact hd
  refine ⟨rfl, dx, fldF (.ref a :: vs) l [], upd_same, by rw [upd_ne hne, upd_same], hd1, ?_⟩
  have e : upd (del (upd (upd (upd H1 a (exo a C none)) dx (exd dx (fldF (.ref a :: vs) l []))) a (exo a C (some dx))) a) dx (.xd (fldF (.ref a :: vs) l [])) = upd H1 dx (.xd (fldF (.non :: vs) l [])) := by
    rw [fldF_self (.ref a) .non vs pos_]
    funext b
    by_cases z1 : b = dx
    · subst z1; rw [upd_same, upd_same]
    · rw [upd_ne z1, upd_ne z1]
      by_cases z2 : b = a
      · subst z2; rw [del_same, ha]
      · rw [del_ne z2, upd_ne z2, upd_ne z1, upd_ne z2]
  rw [e]
  exact h3 dx hd1
end PI

set_option maxRecDepth 100000
set_option maxHeartbeats 2000000
namespace PI
open PySem PySem.Spec PyProof.Rows L2
/-- a value whose class is asked -/
inductive TyY (K : PySem.W.Frag) (pn : List (Addr × Obj)) (H : Hp) : V → Value → Prop
  | plain {v : V} {t : Value} (h : TyX K H v t) : TyY K pn H v t
  | exn {a C : Addr} {oe : Obj} {dd : Option Addr} (hp : (a, oe) ∈ pn) (hz : Zc (.ref C) dd oe) (hf : ∃ vs, oe.data = .fields vs) (hc : ExcC K C) (hd : ∀ d, dd = some d → ∃ gs, H d = some (.xd gs)) : TyY K pn H (.ref a) (.ref C)
section
variable {X : Cx} {pins : List (Addr × Obj)} {pn : List (Addr × Obj)} {σ : L2.St} {H : Hp} {s : Shared}
/-- the object of such an exception, its dict -/
theorem exn_at (I : Inv X pins σ H s) (hx : ∀ p ∈ pn, p ∈ X.pn) {a C : Addr} {oe : Obj} {dd : Option Addr} (hp : (a, oe) ∈ pn) (hz : Zc (.ref C) dd oe) (hf : ∃ vs, oe.data = .fields vs) (hd : ∀ d, dd = some d → ∃ gs, H d = some (.xd gs)) : ∃ od, PySem.W.InstAt s.heap a oe C od := by
  obtain ⟨hget, _⟩ := I.pin (a, oe) (List.mem_append.mpr (.inl (hx _ hp)))
  obtain ⟨vs, hv⟩ := hf
  cases dd with
  | none =>
    refine ⟨none, hget, hz.1, by unfold PySem.W.notCls; rw [hv] <;> rfl, ?_⟩
    rw [hz.2]
    trivial
  | some d =>
    obtain ⟨gs, hg⟩ := hd d rfl
    have hx : ObjOk X.prog X.w H s.heap d (.xd gs) := I.hok d _ hg
    obtain ⟨mA, hns, _⟩ := hx
    obtain ⟨od, ho, _⟩ := lookIn_ns hns
    refine ⟨some od, hget, hz.1, by unfold PySem.W.notCls; rw [hv] <;> rfl, ?_⟩
    rw [hz.2]
    exact ho
theorem exc_look {K : PySem.W.Frag} {C x : Addr} {ox : Obj} {od : Option Obj} (T : ExcC K C) : PySem.W.KitX K (.ref x) (.ref C) (fun h => PySem.W.InstAt h x ox C od) := by
  obtain ⟨cd, hcd, _⟩ := PySem.W.any_some T.hd
  exact PySem.W.kitx_exc (by rw [hcd]; rfl) T.hg T.hk T.hs T.ha T.hn T.ht T.hm
theorem kit_ofY (I : Inv X pins σ H s) (hx : ∀ p ∈ pn, p ∈ X.pn) {x : V} {u t : Value} (rx : RelV x u) (ty : TyY X.K pn H x t) : ∃ P : Heap → Prop, PySem.W.KitX X.K u t P ∧ P s.heap ∧ u ≠ .builtin "__main__.__loader__#opaque" := by
  cases ty with
  | plain h => exact kit_of I rx h
  | @exn a C oe dd hp hz hf hc hd =>
    cases (show u = Value.ref a from rx)
    obtain ⟨od, J⟩ := exn_at I hx hp hz hf hd
    exact ⟨_, exc_look hc, J, fun z => nomatch z⟩
/-- isinstance(x, c) -/
def rIsiY (K : PySem.W.Frag) (pn : List (Addr × Obj)) : List V → Hp → VK → Prop := fun xs H Q => ∃ (x c : V) (t u : Value) (b : Bool), xs = [x, c] ∧ ClsV c u ∧ TyY K pn H x t ∧ PySem.W.kitOne K t u = some b ∧ Q (.bl b) H
def rIsiTY (K : PySem.W.Frag) (pn : List (Addr × Obj)) : List V → Hp → VK → Prop := fun xs H Q => ∃ (x : V) (tp : Addr) (cs : List V) (t : Value) (us : List Value) (b : Bool), xs = [x, .ref tp] ∧ H tp = some (.tup cs) ∧ Paired ClsV cs us ∧ TyY K pn H x t ∧ PySem.W.kitAny K t us = some b ∧ Q (.bl b) H
end
theorem call_isiY {X : Cx} {pn : List (Addr × Obj)} (hx : ∀ p ∈ pn, p ∈ X.pn) : CallR X (.builtin "isinstance") (rIsiY X.K pn) := by
  intro pins s σ H xs us Q I r h
  obtain ⟨x, c, t, u, b, rfl, k, ty, e, q⟩ := h
  obtain ⟨u1, u2, rfl, r1, r2⟩ := vals2 r
  have e2 := k.eq r2
  subst e2
  obtain ⟨P, Z, p, hn⟩ := kit_ofY I hx r1 ty
  exact PySem.W.kia_one Z I.kIn p e hn fun tk => ⟨.bl b, H, I.tok tk, rfl, q⟩
theorem call_isiTY {X : Cx} {pn : List (Addr × Obj)} (hx : ∀ p ∈ pn, p ∈ X.pn) : CallR X (.builtin "isinstance") (rIsiTY X.K pn) := by
  intro pins s σ H xs us Q I r h
  obtain ⟨x, tp, cs, t, ws, b, rfl, hT, k, ty, e, q⟩ := h
  obtain ⟨u1, u2, rfl, r1, r2⟩ := vals2 r
  cases (show u2 = Value.ref tp from r2)
  obtain ⟨P, Z, p, hn⟩ := kit_ofY I hx r1 ty
  obtain ⟨_, its, rv, ⟨oc, od, dt, sl⟩, h1, h2, n, h3⟩ := (show ObjOk X.prog X.w H s.heap tp (.tup cs) from I.hok tp _ hT)
  have e3 := ClsV.all k rv
  simp only at h2 h3
  subst e3 h2 h3
  exact PySem.W.kia_tup Z I.kIn p h1 e hn fun tk => ⟨.bl b, H, I.tok tk, rfl, q⟩
/-- e.f of a caught exception -/
theorem exn_fld {X : Cx} {pins : List (Addr × Obj)} {pn : List (Addr × Obj)} {σ : L2.St} {H : Hp} {s : Shared} {Q : VK} (I : Inv X pins σ H s) (hx : ∀ p ∈ pn, p ∈ X.pn) {a C d : Addr} {oe : Obj} {n : Str} {gs : List (Str × V)} {v : V} (T : XfC X.K C) (hno : PySem.W.findIn X.K (.ref C) n = some none)
    (hp : (a, oe) ∈ pn) (hz : Zc (.ref C) (some d) oe) (hf : ∃ vs, oe.data = .fields vs) (hd : H d = some (.xd gs)) (l : gs.lookup n = some v) (q : Q v H) : wpAny (model X.prog X.w) X.A (getAttr (.ref a) n true) (EP X pins σ Q) X.xe s := by
  obtain ⟨ha, _⟩ := I.pin (a, oe) (List.mem_append_left _ (hx _ hp))
  obtain ⟨vs, hv⟩ := hf
  have hx : ObjOk X.prog X.w H s.heap d (.xd gs) := I.hok d _ hd
  obtain ⟨mA, hns, hr⟩ := hx
  obtain ⟨od, ho, hl⟩ := lookIn_ns hns
  obtain ⟨u, hu, ru⟩ := RelO.some_of (v := v) (o := mA n) (by rw [← l]; exact hr n)
  have J : PySem.W.InstAt s.heap a oe C (some od) := ⟨ha, hz.1, by unfold PySem.W.notCls; rw [hv] <;> rfl, by rw [hz.2]; exact ho⟩
  exact HandSPX.exc_get I.kIn J T.ga T.gg T.exC (PySem.W.findObj_own T.hdC hno rfl (by rw [hl, hu])) (handed_of ru) ⟨v, H, I.tok _, ru, q⟩
end PI

set_option maxRecDepth 100000
set_option maxHeartbeats 1000000
namespace PI
open PySem PySem.Spec PyProof.Rows L2

theorem Fin.mono {α β : Type} {G : Gd} {Rel : List Addr → LH → Hp → α → β → Prop} {W : WT} {φ : List Addr} {L : LH} {H : Hp} {Q Q' : β → Hp → Prop} (hq : ∀ v H, Q v H → Q' v H) : ∀ {c : R α}, Fin G Rel W φ L H Q c → Fin G Rel W φ L H Q' c
  | .ok _ _, h => fun φ' v H' a b c => hq _ _ (h φ' v H' a b c)
  | .exc _ _ _, h => h
  | .stuck, h => h
section
variable {G : Gd} {pn : Pn} {W : WX} {σ : L2.St} {H : Hp}
theorem rdE.mono {f : SL → LH → R V2} {Q Q' : VK} (h : rdE G pn W f σ H Q) (hq : ∀ v H, Q v H → Q' v H) : rdE G pn W f σ H Q' := let ⟨φ, sl, L, a, b, c⟩ := h; ⟨φ, sl, L, a, b, c.mono hq⟩
theorem rdT.mono {f : SL → LH → R Bool} {Q Q' : Bool → Hp → Prop} (h : rdT G pn W f σ H Q) (hq : ∀ v H, Q v H → Q' v H) : rdT G pn W f σ H Q' := let ⟨φ, sl, L, a, b, c⟩ := h; ⟨φ, sl, L, a, b, c.mono hq⟩
theorem rdA.mono {f : SL → LH → R (List V2)} {Q Q' : List V → Hp → Prop} (h : rdA G pn W f σ H Q) (hq : ∀ v H, Q v H → Q' v H) : rdA G pn W f σ H Q' := let ⟨φ, sl, L, a, b, c⟩ := h; ⟨φ, sl, L, a, b, c.mono hq⟩
theorem rdK.mono {f : SL → LH → R (List (Nat × V2))} {Q Q' : List V → Hp → Prop} (h : rdK G pn W f σ H Q) (hq : ∀ v H, Q v H → Q' v H) : rdK G pn W f σ H Q' := let ⟨φ, sl, L, a, b, c⟩ := h; ⟨φ, sl, L, a, b, c.mono hq⟩
theorem rdP.mono {f : SL → LH → R (Option Int)} {Q Q' : Option Int → Hp → Prop} (h : rdP G pn W f σ H Q) (hq : ∀ v H, Q v H → Q' v H) : rdP G pn W f σ H Q' := let ⟨φ, sl, L, a, b, c⟩ := h; ⟨φ, sl, L, a, b, c.mono hq⟩
end

abbrev Gd.at (G : Gd) (B : Addr → Prop) : Gd := { G with B := B }
section
variable {G : Gd} {B : Addr → Prop} {O O1 : Addr → Prop} {H H1 : Hp}
mutual
theorem RD.re (s : Stp O H O1 H1) : ∀ (d : D) (v : V), RD G O H d v → RD (G.at B) O1 H1 d v
  | .non, _, h => h
  | .bl _, _, h => h
  | .int _, _, h => h
  | .str _, _, h => h
  | .tup xs, _, h => by
    obtain ⟨a, vs, e, t, r⟩ := h
    exact ⟨a, vs, e, s.tup t, RDs.re s xs vs r⟩
  | .lst xs, _, h => by
    obtain ⟨a, vs, e, t, r⟩ := h
    exact ⟨a, vs, e, s.lst (K := G.K) t, RDs.re s xs vs r⟩
  | .dct kvs, _, h => by
    obtain ⟨a, ks, e, ⟨t, n⟩, r⟩ := h
    exact ⟨a, ks, e, ⟨s.keep a _ t n, s.no t n⟩, RDk.re s kvs ks r⟩
  | .ins C fs, _, h => by
    obtain ⟨a, dx, gs, e, ⟨t, n⟩, r⟩ := h
    exact ⟨a, dx, gs, e, ⟨s.keep a _ t n, s.no t n⟩, RDf.re s fs gs r⟩
theorem RDs.re (s : Stp O H O1 H1) : ∀ (ds : List D) (vs : List V), RDs G O H ds vs → RDs (G.at B) O1 H1 ds vs
  | [], _, h => h
  | x :: xs, _, h => by
    obtain ⟨v, r, e, h1, h2⟩ := h
    exact ⟨v, r, e, RD.re s x v h1, RDs.re s xs r h2⟩
theorem RDk.re (s : Stp O H O1 H1) : ∀ (ds : List (D × D)) (vs : List (Key × V)), RDk G O H ds vs → RDk (G.at B) O1 H1 ds vs
  | [], _, h => h
  | (k, x) :: xs, _, h => by
    obtain ⟨z, v, r, e, hk, h1, h2⟩ := h
    exact ⟨z, v, r, e, hk, RD.re s x v h1, RDk.re s xs r h2⟩
theorem RDf.re (s : Stp O H O1 H1) : ∀ (ds : List (Nat × D)) (vs : List (Str × V)), RDf G O H ds vs → RDf (G.at B) O1 H1 ds vs
  | [], _, h => h
  | (k, x) :: xs, _, h => by
    obtain ⟨v, r, e, h1, h2⟩ := h
    exact ⟨v, r, e, RD.re s x v h1, RDf.re s xs r h2⟩
end
end
theorem RV.at {G : Gd} {B : Addr → Prop} {pn : Pn} {φ φ' : List Addr} {O O1 : Addr → Prop} {H H1 : Hp} (s : Stp O H O1 H1) (p : φ <+: φ') : ∀ {x : V2} {v : V}, RV G pn φ O H x v → RV (G.at B) pn φ' O1 H1 x v
  | .val d, v, h => RD.re s d v h
  | .ref n, v, ⟨a, e, q⟩ => ⟨a, e, pre_get p q⟩
  | .exn C fs, v, ⟨a, oe, dd, e, hp, hz, hf, q⟩ => ⟨a, oe, dd, e, hp, hz, hf, q.imp (fun ⟨d, gs, e1, ⟨t, n⟩, r⟩ => ⟨d, gs, e1, ⟨s.keep d _ t n, s.no t n⟩, RDf.re s fs gs r⟩) id⟩
theorem RO.at {G : Gd} {B : Addr → Prop} {O O1 : Addr → Prop} {H H1 : Hp} (s : Stp O H O1 H1) {a : Addr} (ha : H1 a = H a) : ∀ {o : LO}, RO G O H a o → RO (G.at B) O1 H1 a o
  | .dead, _ => trivial
  | .lst xs, ⟨vs, e, r⟩ => ⟨vs, ha.trans e, RDs.re s xs vs r⟩
  | .dct kvs, ⟨ks, e, r⟩ => ⟨ks, ha.trans e, RDk.re s kvs ks r⟩
  | .ins C fs, ⟨dx, gs, e, r⟩ => ⟨dx, gs, ha.trans e, RDf.re s fs gs r⟩
theorem RSl.at {G : Gd} {B : Addr → Prop} {pn : Pn} {φ φ' : List Addr} {O O1 : Addr → Prop} {H H1 : Hp} {sl : SL} {σ : L2.St} (s : Stp O H O1 H1) (p : φ <+: φ') (h : RSl G pn φ O H sl σ) : RSl (G.at B) pn φ' O1 H1 sl σ :=
  ⟨h.1, fun i x q => let ⟨v, a, b⟩ := h.2 i x q; ⟨v, a, RV.at s p b⟩⟩

/-- how arguments are bound -/
def BndOk (G : Gd) (fd : FuncData) (ps : List Str) (bind : List V2 → List (Nat × V2) → Option (List V2)) : Prop :=
  ∀ (s : Shared) (pos : List V2) (kw : List (Nat × V2)) (zs : List V2) (us ws : List Value) (vs ks : List V) (pn : Pn) (φ : List Addr) (O : Addr → Prop) (H : Hp) (B : Addr → Prop), G.K.In s.heap → bind pos kw = some zs →
    RVs (G.at B) pn φ O H pos vs → RVs (G.at B) pn φ O H (kw.map (·.2)) ks → Vals vs us → Vals ks ws →
    ∃ (us' : List Value) (vs' : List V), BindsTo s fd ⟨us, (kw.map fun p => G.nm p.1).zip ws⟩ (ps.zip us') ∧ Vals vs' us' ∧ RVs (G.at B) pn φ O H zs vs' ∧ vs'.length = ps.length
def WCx (G : Gd) (E : XK) : WT := fun C fs φ L H => ∀ cls d, RXe G (Own G φ L) H C fs cls d → E cls d H
structure FnG (G : Gd) (P : Program) (w : World) (mg : Str → Option Value) (base : Heap) (hot : Bool) (k : Nat) (f : Addr) (fd : FuncData) (ps : List Str) (c : List V2 → LH → R V2) : Prop where
  run : ∀ (B : Addr → Prop) (pn : Pn) (A : Around) (outer : List Env) (s : Shared) (H : Hp) (args : Args) (us : List Value) (vs : List V) (xs : List V2) (φ : List Addr) (L : LH) (Q : VK) (E : XK), L2H.RoomH (k + 2) A → (hot = false → A.handled = none ∧ pn = []) → (hot = true → ∃ p, pn = [p] ∧ L2H.Hot1 A p) → (∀ p ∈ pn, L2H.PinOk outer H s p) →
    Env0 P w G.K mg base A outer s H → BindsTo s fd args (ps.zip us) → Vals vs us → vs.length = ps.length → HR (G.at B) φ L H → RVs (G.at B) pn φ (Own (G.at B) φ L) H xs vs → Fin (G.at B) (RelV2 (G.at B) pn) (WCx (G.at B) E) φ L H Q (c xs L) →
    codeAny (model P w) A (.call (.ref f) args) (CR (L2N.CX P w) outer P w H s Q E) s
/-- classes -/
def KitOk (K : PySem.W.Frag) (cn : Nat → Addr) (t : TV) (c : IC) (b : Bool) : Prop := PySem.W.kitOne K (match t with
  | .ty n => .type n
  | .own C => .ref (cn C)
  | .exn C => .ref (cn C)) (match c with
  | .ty n => .type n
  | .own C => .ref (cn C)) = some b
/-- an own class that isinstance may see -/
structure OwnC (K : PySem.W.Frag) (C : Addr) : Prop where
  cl : Cls K C
  ha : PySem.W.findIn K (.ref C) "__class__" = some (some (.builtin "object.__class__"))
  hn : PySem.W.specialIn K (.builtin "object.__class__") "__get__" = some (some (.builtin "getset_descriptor.__get__"))
  htk : PySem.W.takesIn K (.builtin "object.__class__") = some true
  hm : PySem.W.mroIn K C (.type "object") = some true
/-- an own exception class, made by a call: n arguments, the stores of its __init__ -/
def ExcOk (G : Gd) (nm : Nat → Str) (mg : Str → Option Value) (C n : Nat) (l : List (Nat × Nat)) : Prop := ∃ (fI : Addr) (fd : FuncData) (ps : List Str), mg (nm C) = some (.ref (G.cn C)) ∧ OexC G.K (G.cn C) ∧ PySem.W.findIn G.K (.ref (G.cn C)) "__init__" = some (some (.ref fI)) ∧ PySem.W.typeIn G.K (.ref fI) = some (.type "function") ∧
  (∀ (P : Program) (w : World) (base : Heap), FnOk P w G.K mg base CX0 1 fI fd ps (spInit G.K ps.length (l.map fun p => (nm p.1, p.2)))) ∧ (∀ p ∈ l, PySem.W.findIn G.K (.ref (G.cn C)) (nm p.1) = some none) ∧ (∀ p ∈ l, 0 < p.2 ∧ p.2 ≤ n) ∧ Binds G.K fd ps [] ∧ ps.length = n + 1
/-- the module's facts -/
structure Ft (G : Gd) (T : Tb) (P : Prog) (mg : Str → Option Value) : Prop where
  nm : G.nm = T.nm
  free : ∀ x ∈ T.free, mg x = none
  glob : ∀ g ∈ T.globs, ∃ v u, mg (T.nm g) = some u ∧ RelV v u ∧ ∀ B O H, RD (G.at B) O H (P.glob g) v
  kit : ∀ t c b, P.kit t c = some b → KitOk G.K G.cn t c b
  own : ∀ C c b, P.kit (.own C) c = some b → OwnC G.K (G.cn C)
  ownE : ∀ C c b, P.kit (.exn C) c = some b → ExcC G.K (G.cn C)
  sub : ∀ D C b, P.sub D C = some b → PySem.W.exmOne G.K (.ref (G.cn D)) (.ref (G.cn C)) = some b
  xf : ∀ C f, excFld (P.exc C) f = true → XfC G.K (G.cn C) ∧ PySem.W.findIn G.K (.ref (G.cn C)) (T.nm f) = some none ∧ ∀ g, T.nm g = T.nm f → g = f
  cls : ∀ C ∈ T.cls, mg (T.nm C) = some (.ref (G.cn C))
  exc : ∀ C ∈ T.excs, ∀ n l, P.exc C = some (n, l) → ExcOk G T.nm mg C n l
  fns : ∀ f ∈ T.fns, ∃ fA, mg (T.nm f) = some (.ref fA) ∧ PySem.W.keepIn G.K (.ref fA) = true
/-- the defs as they run, at most k deep -/
def FnsOk (G : Gd) (T : Tb) (P : Prog) (prog : Program) (w : World) (mg : Str → Option Value) (base : Heap) (hot : Bool) (k : Nat) : Prop :=
  ∀ f ∈ T.fns, ∀ fA, mg (T.nm f) = some (.ref fA) → ∃ fd ps, BndOk G fd ps (P.bind f) ∧ FnG G prog w mg base hot k fA fd ps (call P hot k f)
/-- what is known of a context -/
structure Am (G : Gd) (T : Tb) (P : Prog) (hot : Bool) (k : Nat) (pn : Pn) (W : WX) (X : Cx) : Prop where
  hK : X.K = G.K
  ft : Ft G T P X.mg
  fn : FnsOk G T P X.prog X.w X.mg X.base hot k
  fnH : FnsOk G T P X.prog X.w X.mg X.base true k
  room : L2H.RoomH (k + 2) X.A
  calm : hot = false → X.calm = true
  pn0 : hot = false → pn = []
  pnH : hot = true → ∃ p, pn = [p] ∧ L2H.Hot1 X.A p
  pns : ∀ p ∈ pn, p ∈ X.pn
  tk : L2N.Takes X W
  nd : X.N.Nodup
theorem Am.un {G : Gd} {T : Tb} {P : Prog} {hot : Bool} {k : Nat} {pn : Pn} {W : WX} {X : Cx} (A : Am G T P hot k pn W X) : X.A.units + 64 < cLine := by have := A.room.un; omega
theorem Am.at {G : Gd} {T : Tb} {P : Prog} {hot : Bool} {k : Nat} {pn : Pn} {W : WX} {X : Cx} (A : Am G T P hot k pn W X) (B : Addr → Prop) : Am (G.at B) T P hot k pn W X :=
  ⟨A.hK, ⟨A.ft.nm, A.ft.free, A.ft.glob, A.ft.kit, A.ft.own, A.ft.ownE, A.ft.sub, A.ft.xf, A.ft.cls, A.ft.exc, A.ft.fns⟩, fun f hf fA e => let ⟨fd, ps, b, g⟩ := A.fn f hf fA e; ⟨fd, ps, b, ⟨g.run⟩⟩, fun f hf fA e => let ⟨fd, ps, b, g⟩ := A.fnH f hf fA e; ⟨fd, ps, b, ⟨g.run⟩⟩, A.room, A.calm, A.pn0, A.pnH, A.pns, A.tk, A.nd⟩
end PI

set_option maxRecDepth 100000
set_option maxHeartbeats 1000000
namespace PI
open PySem PySem.Spec PyProof.Rows L2

/-- what a comparison gives -/
def Bls (f : SL → LH → R V2) : Prop := ∀ sl L x L', f sl L = .ok x L' → ∃ b, x = .val (.bl b)
section
variable {G : Gd} {pn : Pn} {W : WX} {X : Cx} {σ : L2.St} {H : Hp} {c : Cl} {a b d x y z w : Expr} {p : Pos}
theorem two {f g : SL → LH → R V2} {h : V2 → V2 → LH → R V2} {Q : VK} (hq : rdE G pn W (fun sl L => (f sl L).bind fun x L1 => (g sl L1).bind fun y L2 => h x y L2) σ H Q) : tOp (rd2 G pn h) (rdE G pn W f) (rdE G pn W g) σ H Q := by
  obtain ⟨φ, sl, L, hR, hS, hF⟩ := hq
  exact (bindE hR hS hF).mono fun u H1 ⟨φ1, L1, x, hR1, e1, r1, hS1, hF1⟩ => (bindE hR1 hS1 hF1).mono fun v H2 ⟨φ2, L2, y, hR2, e2, r2, hS2, hF2⟩ =>
    ⟨_, φ2, L2, x, y, hR2, RV.go e2 r1, r2, hF2⟩
theorem tru (hK : X.K = G.K) {f : SL → LH → R V2} {Q : Bool → Hp → Prop} (hq : rdT G pn W (fun sl L => (f sl L).bind fun x L1 => R.opt (x.truth L1) L1) σ H Q) : rdE G pn W f σ H (fun x H' => ∃ k, TruV X.K x H' k ∧ Q k H') := by
  obtain ⟨φ, sl, L, hR, hS, hF⟩ := hq
  rw [hK]
  refine (bindE hR hS hF).mono fun u H1 ⟨φ1, L1, x, hR1, e1, r1, hS1, hF1⟩ => ?_
  cases e : x.truth L1 with
  | none => rw [e] at hF1; exact hF1.elim
  | some k =>
    rw [e] at hF1
    exact ⟨k, truth_ok hR1 r1 e, hF1 φ1 k H1 hR1 (Ext.refl _ _ _ _) rfl⟩
theorem trub {f : SL → LH → R V2} (hf : Bls f) {Q : Bool → Hp → Prop} (hq : rdT G pn W (fun sl L => (f sl L).bind fun x L1 => R.opt (x.truth L1) L1) σ H Q) : rdE G pn W f σ H (fun x H' => ∃ k, x = .bl k ∧ Q k H') := by
  obtain ⟨φ, sl, L, hR, hS, hF⟩ := hq
  refine ⟨φ, sl, L, hR, hS, ?_⟩
  simp only at hF
  cases e : f sl L with
  | stuck => rw [e] at hF; exact hF
  | exc C fs L1 => rw [e] at hF; exact hF
  | ok x L1 =>
    rw [e] at hF
    obtain ⟨k, rfl⟩ := hf _ _ _ _ e
    exact fun φ' v H' h1 e1 r1 => ⟨k, r1, hF φ' k H' h1 e1 rfl⟩
/-- a test by truth -/
theorem ptv (hK : X.K = G.K) {e : IE} (h : PE X x (rdE G pn W (ev c e))) (he : ∀ whole, isTrue x X.env whole = (do let v ← whole; standAt x.pos; holding [v] (truthy v))) : PT X x (rdT G pn W (evt c e)) := (pt_truth h he).imp fun _ _ _ q => tru hK q

theorem snd_v {i : Nat} {n : Str} (hN : X.N[i]? = some n) (hv : Vis X.env.scope n) (h1 : dbgB n = false) (h2 : cdB n = false) : PE X (.Name n p) (rdE G pn W (ev c (.v i))) := by
  refine (pe_var hN hv h1 h2).imp fun σ H Q ⟨φ, sl, L, hR, hS, hF⟩ => ?_
  simp only [ev] at hF
  cases e : sl[i]? with
  | none => rw [e] at hF; exact hF.elim
  | some o =>
    cases o with
    | none => rw [e] at hF; exact hF.elim
    | some x =>
      rw [e] at hF
      obtain ⟨v, e1, r⟩ := hS.2 i x e
      exact ⟨v, e1, fin_v2 hR hF r⟩
theorem snd_c {d : D} {k : Const} {j : Nat} (h : constB d k = true) : PE X (.Constant k j p) (rdE G pn W (ev c (.c d))) := by
  have go : ∀ {v : V}, (∀ O H, RD G O H d v) → ∀ σ H Q, rdE G pn W (ev c (.c d)) σ H Q → tC v σ H Q := fun {v} r σ H Q ⟨φ, sl, L, hR, hS, hF⟩ => by
    simp only [ev] at hF
    exact fin_val hR hF (r _ _)
  cases d <;> cases k <;> first | exact ff h | skip
  · exact pe_non.imp (go fun _ _ => rfl)
  · have e := beq_iff_eq.mp (show (_ == _) = true from h)
    subst e
    exact pe_bl.imp (go fun _ _ => rfl)
  · have e := of_decide_eq_true (show decide (_ = _) = true from h)
    subst e
    exact pe_int.imp (go fun _ _ => rfl)
  · rename_i s z
    have e : z = ⟨s.toArray⟩ := of_decide_eq_true (a1 (a1 h))
    subst e
    refine pe_str.imp (go fun _ _ => ⟨rfl, fun c hc => ?_, of_decide_eq_true (a2 h)⟩)
    have q := List.all_eq_true.mp (a2 (a1 h)) c hc
    exact of_decide_eq_true q
theorem snd_g {T : Tb} {P : Prog} {g : Nat} {n : Str} (ft : Ft G T P X.mg) (hc : c.glob = P.glob) (hn : n = T.nm g) (hg : g ∈ T.globs) (hl : Gl X n) (hd : dbgB n = false) : PE X (.Name n p) (rdE G pn W (ev c (.g g))) := by
  subst hn
  obtain ⟨v, u, e1, e2, r⟩ := ft.glob g hg
  refine (pe_glob hl e1 e2 hd).imp fun σ H Q ⟨φ, sl, L, hR, hS, hF⟩ => ?_
  simp only [ev, hc] at hF
  exact fin_val hR hF (r G.B _ _)
theorem snd_bin (hK : X.K = G.K) {op : OpB} {own : Bool} {e f : IE} (ha : PE X a (rdE G pn W (ev c e))) (hb : PE X b (rdE G pn W (ev c f))) : PE X (.BinOp a op.py b p) (rdE G pn W (ev c (.bin op own e f))) :=
  (pe_op (ok_bin (pn := pn) hK own op) ha hb).imp fun σ H Q ⟨φ, sl, L, hR, hS, hF⟩ => two ⟨φ, sl, L, hR, hS, by simp only [ev] at hF; exact hF⟩
theorem mark_of {op : OpC} (h : notSet b = true) : behindInMarks op.py b = false := by
  cases b <;> first | exact ff h | rfl
theorem bls_cmp {op : OpC} {e f : IE} : Bls (ev c (.cmp op e f)) := by
  intro sl L x L' h
  simp only [ev] at h
  cases h1 : ev c e sl L with
  | stuck => rw [h1] at h; cases h
  | exc C fs L1 => rw [h1] at h; cases h
  | ok y L1 =>
    rw [h1] at h
    simp only [R.bind_ok] at h
    cases h2 : ev c f sl L1 with
    | stuck => rw [h2] at h; cases h
    | exc C fs L1 => rw [h2] at h; cases h
    | ok z L2 =>
      rw [h2] at h
      simp only [R.bind_ok, cmpR] at h
      split at h
      · cases h; exact ⟨_, rfl⟩
      · cases h
theorem snd_cmp (hK : X.K = G.K) (hu : X.A.units + 64 < cLine) {op : OpC} {e f : IE} (hm : notSet b = true) (ha : PE X a (rdE G pn W (ev c e))) (hb : PE X b (rdE G pn W (ev c f))) : PE X (.Compare a [op.py] [b] p) (rdE G pn W (ev c (.cmp op e f))) ∧ PT X (.Compare a [op.py] [b] p) (rdT G pn W (evt c (.cmp op e f))) :=
  ⟨(pe_cmpR (ok_cmp (pn := pn) hK hu op) ha hb (mark_of hm)).imp fun σ H Q ⟨φ, sl, L, hR, hS, hF⟩ => two ⟨φ, sl, L, hR, hS, by simp only [ev] at hF; exact hF⟩,
    (pt_cmpR (ok_cmp (pn := pn) hK hu op) ha hb (mark_of hm)).imp fun σ H Q q => by
      obtain ⟨φ, sl, L, hR, hS, hF⟩ := trub bls_cmp q
      exact two ⟨φ, sl, L, hR, hS, by simp only [ev] at hF; exact hF⟩⟩
theorem snd_neg {e : IE} (ha : PE X a (rdE G pn W (ev c e))) : PE X (.UnaryOp .USub a p) (rdE G pn W (ev c (.neg e))) :=
  (pe_un un_neg ha).imp fun σ H Q ⟨φ, sl, L, hR, hS, hF⟩ => by
    simp only [ev] at hF
    refine (bindE hR hS hF).mono fun u H1 ⟨φ1, L1, x, hR1, e1, r1, hS1, hF1⟩ => ?_
    match x, r1, hF1 with
    | .val (.int i), r1, hF1 => exact ⟨i, r1, fin_val hR1 hF1 rfl⟩
    | .val .non, _, hF1 => exact hF1.elim
    | .val (.bl _), _, hF1 => exact hF1.elim
    | .val (.str _), _, hF1 => exact hF1.elim
    | .val (.tup _), _, hF1 => exact hF1.elim
    | .val (.lst _), _, hF1 => exact hF1.elim
    | .val (.dct _), _, hF1 => exact hF1.elim
    | .val (.ins _ _), _, hF1 => exact hF1.elim
    | .ref _, _, hF1 => exact hF1.elim
    | .exn _ _, _, hF1 => exact hF1.elim
theorem snd_not (hK : X.K = G.K) {e : IE} (ha : PE X a (rdE G pn W (ev c e))) (ht : PT X a (rdT G pn W (evt c e))) : PE X (.UnaryOp .Not a p) (rdE G pn W (ev c (.not e))) ∧ PT X (.UnaryOp .Not a p) (rdT G pn W (evt c (.not e))) := by
  refine ⟨(pe_notT ha).imp fun σ H Q ⟨φ, sl, L, hR, hS, hF⟩ => ?_, (pt_not ht).imp fun σ H Q ⟨φ, sl, L, hR, hS, hF⟩ => ?_⟩
  · simp only [ev] at hF
    unfold tNotT
    rw [hK]
    refine (bindE hR hS hF).mono fun u H1 ⟨φ1, L1, x, hR1, e1, r1, hS1, hF1⟩ => ?_
    cases e : x.truth L1 with
    | none => rw [e] at hF1; exact hF1.elim
    | some k => rw [e] at hF1; exact ⟨k, truth_ok hR1 r1 e, fin_val hR1 hF1 rfl⟩
  · refine ⟨φ, sl, L, hR, hS, ?_⟩
    simp only [evt, ev] at hF ⊢
    cases h1 : ev c e sl L with
    | stuck => rw [h1] at hF; exact hF
    | exc C fs L1 => rw [h1] at hF; exact hF
    | ok x L1 =>
      rw [h1] at hF
      simp only [R.bind_ok] at hF ⊢
      cases e : x.truth L1 with
      | none => rw [e] at hF; exact hF
      | some k => rw [e] at hF; exact fun φ' v H' h1 e1 r1 => r1 ▸ hF φ' (!k) H' h1 e1 rfl
theorem evt_and (e f : IE) (sl : SL) (L : LH) : evt c (.and e f) sl L = (evt c e sl L).bind fun k L1 => if k = true then evt c f sl L1 else .ok false L1 := by
  simp only [evt, ev]
  cases ev c e sl L with
  | stuck => rfl
  | exc C fs L1 => rfl
  | ok x L1 =>
    simp only [R.bind_ok]
    cases h : x.truth L1 with
    | none => rfl
    | some k => cases k <;> simp [h]
theorem evt_or (e f : IE) (sl : SL) (L : LH) : evt c (.or e f) sl L = (evt c e sl L).bind fun k L1 => if k = true then .ok true L1 else evt c f sl L1 := by
  simp only [evt, ev]
  cases ev c e sl L with
  | stuck => rfl
  | exc C fs L1 => rfl
  | ok x L1 =>
    simp only [R.bind_ok]
    cases h : x.truth L1 with
    | none => rfl
    | some k => cases k <;> simp [h]
theorem ev_ife (t e f : IE) (sl : SL) (L : LH) : ev c (.ife t e f) sl L = (evt c t sl L).bind fun k L1 => if k = true then ev c e sl L1 else ev c f sl L1 := by
  simp only [evt, ev]
  cases ev c t sl L with
  | stuck => rfl
  | exc C fs L1 => rfl
  | ok x L1 =>
    simp only [R.bind_ok]
    cases h : x.truth L1 with
    | none => rfl
    | some k => cases k <;> simp [h]
theorem R.bind_assoc' {α β γ : Type} (r : R α) (f : α → LH → R β) (g : β → LH → R γ) : (r.bind f).bind g = r.bind fun a L => (f a L).bind g := by cases r <;> rfl
theorem evt_ife (t e f : IE) (sl : SL) (L : LH) : evt c (.ife t e f) sl L = (evt c t sl L).bind fun k L1 => if k = true then evt c e sl L1 else evt c f sl L1 := by
  show (ev c (.ife t e f) sl L).bind _ = _
  rw [ev_ife, R.bind_assoc']
  congr 1
  funext k L1
  cases k <;> rfl
/-- tb stands for the rest -/
theorem snd_and (hK : X.K = G.K) {e f : IE} {r : List Expr} (ha : PE X a (rdE G pn W (ev c e))) (hta : PT X a (rdT G pn W (evt c e))) (hb : PE X (.BoolOp .And (b :: r) p) (rdE G pn W (ev c f))) (htb : PW X (.BoolOp .And (b :: r) p) (rdT G pn W (evt c f))) :
    PE X (.BoolOp .And (a :: b :: r) p) (rdE G pn W (ev c (.and e f))) ∧ PW X (.BoolOp .And (a :: b :: r) p) (rdT G pn W (evt c (.and e f))) := by
  refine ⟨(pe_andT ha hb).imp fun σ H Q ⟨φ, sl, L, hR, hS, hF⟩ => ?_, ⟨fun wh pins s σ H Q I h => (pw_and hta htb).run wh pins s σ H Q I ?_⟩⟩
  · simp only [ev] at hF
    unfold tAndT
    rw [hK]
    refine (bindE hR hS hF).mono fun u H1 ⟨φ1, L1, x, hR1, e1, r1, hS1, hF1⟩ => ?_
    cases e : x.truth L1 with
    | none => rw [e] at hF1; exact hF1.elim
    | some k =>
      rw [e] at hF1
      refine ⟨k, truth_ok hR1 r1 e, ?_⟩
      cases k with
      | true => exact ⟨φ1, sl, L1, hR1, hS1, hF1⟩
      | false => exact fin_v2 hR1 hF1 r1
  · obtain ⟨φ, sl, L, hR, hS, hF⟩ := h
    rw [evt_and] at hF
    refine (bindT hR hS hF).mono fun k H1 ⟨φ1, L1, hR1, e1, hS1, hF1⟩ => ?_
    cases k with
    | true => exact ⟨φ1, sl, L1, hR1, hS1, hF1⟩
    | false => exact hF1 φ1 false H1 hR1 (Ext.refl _ _ _ _) rfl
theorem snd_or (hK : X.K = G.K) {e f : IE} {r : List Expr} (ha : PE X a (rdE G pn W (ev c e))) (hta : PT X a (rdT G pn W (evt c e))) (hb : PE X (.BoolOp .Or (b :: r) p) (rdE G pn W (ev c f))) (htb : PW X (.BoolOp .Or (b :: r) p) (rdT G pn W (evt c f))) :
    PE X (.BoolOp .Or (a :: b :: r) p) (rdE G pn W (ev c (.or e f))) ∧ PW X (.BoolOp .Or (a :: b :: r) p) (rdT G pn W (evt c (.or e f))) := by
  refine ⟨(pe_orT ha hb).imp fun σ H Q ⟨φ, sl, L, hR, hS, hF⟩ => ?_, ⟨fun wh pins s σ H Q I h => (pw_or hta htb).run wh pins s σ H Q I ?_⟩⟩
  · simp only [ev] at hF
    unfold tOrT
    rw [hK]
    refine (bindE hR hS hF).mono fun u H1 ⟨φ1, L1, x, hR1, e1, r1, hS1, hF1⟩ => ?_
    cases e : x.truth L1 with
    | none => rw [e] at hF1; exact hF1.elim
    | some k =>
      rw [e] at hF1
      refine ⟨k, truth_ok hR1 r1 e, ?_⟩
      cases k with
      | true => exact fin_v2 hR1 hF1 r1
      | false => exact ⟨φ1, sl, L1, hR1, hS1, hF1⟩
  · obtain ⟨φ, sl, L, hR, hS, hF⟩ := h
    rw [evt_or] at hF
    refine (bindT hR hS hF).mono fun k H1 ⟨φ1, L1, hR1, e1, hS1, hF1⟩ => ?_
    cases k with
    | true => exact hF1 φ1 true H1 hR1 (Ext.refl _ _ _ _) rfl
    | false => exact ⟨φ1, sl, L1, hR1, hS1, hF1⟩
theorem pt_ife {t : Expr} {tc ta tb : TT} (hc : PT X t tc) (ha : PT X a ta) (hb : PT X b tb) : PT X (.IfExp t a b p) (fun σ H Q => tc σ H fun k H1 => if k = true then ta σ H1 Q else tb σ H1 Q) := by
  refine ⟨fun pins s σ H Q I h => ?_⟩
  refine isTrue_IfExp (thn (hc.run pins s σ H _ I h) fun d s1 ⟨H1, I1, q1⟩ => ?_)
  cases d with
  | true => exact ha.run pins s1 σ H1 Q I1 q1
  | false => exact hb.run pins s1 σ H1 Q I1 q1
theorem snd_ife {t e f : IE} {tx : Expr} (ht : PT X tx (rdT G pn W (evt c t))) (ha : PE X a (rdE G pn W (ev c e))) (hta : PT X a (rdT G pn W (evt c e))) (hb : PE X b (rdE G pn W (ev c f))) (htb : PT X b (rdT G pn W (evt c f))) :
    PE X (.IfExp tx a b p) (rdE G pn W (ev c (.ife t e f))) ∧ PT X (.IfExp tx a b p) (rdT G pn W (evt c (.ife t e f))) := by
  refine ⟨(pe_ifExp ht ha hb).imp fun σ H Q ⟨φ, sl, L, hR, hS, hF⟩ => ?_, (pt_ife ht hta htb).imp fun σ H Q ⟨φ, sl, L, hR, hS, hF⟩ => ?_⟩
  · rw [ev_ife] at hF
    refine (bindT hR hS hF).mono fun k H1 ⟨φ1, L1, hR1, e1, hS1, hF1⟩ => ?_
    cases k with
    | true => exact ⟨φ1, sl, L1, hR1, hS1, hF1⟩
    | false => exact ⟨φ1, sl, L1, hR1, hS1, hF1⟩
  · rw [evt_ife] at hF
    refine (bindT hR hS hF).mono fun k H1 ⟨φ1, L1, hR1, e1, hS1, hF1⟩ => ?_
    cases k with
    | true => exact ⟨φ1, sl, L1, hR1, hS1, hF1⟩
    | false => exact ⟨φ1, sl, L1, hR1, hS1, hF1⟩
theorem plain_of (h : notSlice b = true) : PlainIx b := by
  intro o i
  cases b <;> first | exact ff h | rfl
theorem snd_sub (hK : X.K = G.K) (hu : X.A.units + 64 < cLine) {e f : IE} (hs : notSlice b = true) (ha : PE X a (rdE G pn W (ev c e))) (hb : PE X b (rdE G pn W (ev c f))) : PE X (.Subscript a b p) (rdE G pn W (ev c (.sub e f))) :=
  (pe_ix (ok_sub (pn := pn) hK hu) ha hb (plain_of hs)).imp fun σ H Q ⟨φ, sl, L, hR, hS, hF⟩ => two ⟨φ, sl, L, hR, hS, by simp only [ev] at hF; exact hF⟩
theorem snd_po {e : IE} (h : PE X a (rdE G pn W (ev c e))) : PO X (some a) (rdP G pn W (evp c (some e))) := by
  refine ⟨fun pins s σ H Q I hw => (po_some h).run pins s σ H Q I ?_⟩
  obtain ⟨φ, sl, L, hR, hS, hF⟩ := hw
  simp only [evp] at hF
  refine (bindE hR hS hF).mono fun u H1 ⟨φ1, L1, x, hR1, e1, r1, hS1, hF1⟩ => ?_
  cases e : x.int? with
  | none => rw [e] at hF1; exact hF1.elim
  | some i =>
    rw [e] at hF1
    exact ⟨i, (RV.int r1 e).1, hF1 φ1 _ H1 hR1 (Ext.refl _ _ _ _) rfl⟩
theorem snd_po0 : PO X none (rdP G pn W (evp c none)) := by
  refine ⟨fun pins s σ H Q I hw => po_none.run pins s σ H Q I ?_⟩
  obtain ⟨φ, sl, L, hR, hS, hF⟩ := hw
  simp only [evp] at hF
  exact hF φ _ H hR (Ext.refl _ _ _ _) rfl
theorem snd_slice (hK : X.K = G.K) {own : Bool} {e : IE} {lo hi : Option IE} {l u : Option Expr} {p2 : Pos} (ha : PE X a (rdE G pn W (ev c e))) (hl : PO X l (rdP G pn W (evp c lo))) (hu : PO X u (rdP G pn W (evp c hi))) : PE X (.Subscript a (.Slice l u none p2) p) (rdE G pn W (ev c (.slice own e lo hi))) := by
  refine (pe_slice (ok_slice (pn := pn) hK own) ha hl hu).imp fun σ H Q ⟨φ, sl, L, hR, hS, hF⟩ => ?_
  simp only [ev] at hF
  exact (bindE hR hS hF).mono fun v H1 ⟨φ1, L1, x, hR1, e1, r1, hS1, hF1⟩ => (bindP' hR1 hS1 hF1).mono fun l H2 ⟨φ2, L2, hR2, e2, hS2, hF2⟩ => (bindP' hR2 hS2 hF2).mono fun u H3 ⟨φ3, L3, hR3, e3, hS3, hF3⟩ =>
    ⟨_, φ3, L3, x, hR3, RV.go e3 (RV.go e2 r1), hF3⟩
theorem snd_rev (hK : X.K = G.K) {own : Bool} {e : IE} {k : Nat} {p1 p2 p3 : Pos} (ha : PE X a (rdE G pn W (ev c e))) : PE X (.Subscript a (.Slice none none (some (.UnaryOp .USub (.Constant (.int 1) k p1) p2)) p3) p) (rdE G pn W (ev c (.rev own e))) := by
  refine (pe_revL ha).imp fun σ H Q ⟨φ, sl, L, hR, hS, hF⟩ => ?_
  simp only [ev] at hF
  unfold tRevL
  rw [hK]
  refine (bindE hR hS hF).mono fun v H1 ⟨φ1, L1, x, hR1, e1, r1, hS1, hF1⟩ => ?_
  unfold revV at hF1
  cases e : x.lst? L1 with
  | none => rw [e] at hF1; exact hF1.elim
  | some xs =>
    rw [e] at hF1
    obtain ⟨l, vs, rfl, hl, rs⟩ := RV.lst hR1 r1 e
    exact ⟨l, vs, rfl, .inl hl, (fin_newL hR1 hF1 rs.rev).2⟩
/-- argument lists -/
theorem star_of {es : List Expr} (h : notStar a = true) : starEach (a :: es) X.env = (false, eval a X.env) :: starEach es X.env := by
  cases a <;> first | exact ff h | rfl
theorem snd_nil : PA X [] (rdA G pn W (evs c [])) := pa_nil.imp fun σ H Q ⟨φ, sl, L, hR, hS, hF⟩ => by
  simp only [evs] at hF
  exact hF φ [] H hR (Ext.refl _ _ _ _) rfl
theorem snd_cons {e : IE} {es : List IE} {xs : List Expr} (hs : notStar a = true) (ha : PE X a (rdE G pn W (ev c e))) (hr : PA X xs (rdA G pn W (evs c es))) : PA X (a :: xs) (rdA G pn W (evs c (e :: es))) := by
  refine (pa_cons ha hr (star_of hs)).imp fun σ H Q ⟨φ, sl, L, hR, hS, hF⟩ => ?_
  simp only [evs] at hF
  refine (bindE hR hS hF).mono fun v H1 ⟨φ1, L1, x, hR1, e1, r1, hS1, hF1⟩ => (bindA hR1 hS1 hF1).mono fun vs H2 ⟨φ2, L2, ys, hR2, e2, r2, hS2, hF2⟩ => ?_
  exact hF2 φ2 _ H2 hR2 (Ext.refl _ _ _ _) ⟨v, vs, rfl, RV.go e2 r1, r2⟩
theorem _root_.L2.PK.imp {es : List Keyword} {t t' : TA} (h : PK X es t) (k : ∀ σ H Q, t' σ H Q → t σ H Q) : PK X es t' := ⟨fun pos pins s σ H Q I q => h.run pos pins s σ H Q I (k σ H Q q)⟩
theorem snd_knil : PK X [] (rdK G pn W (evk c [])) := pk_nil.imp fun σ H Q ⟨φ, sl, L, hR, hS, hF⟩ => by
  simp only [evk] at hF
  exact hF φ [] H hR (Ext.refl _ _ _ _) rfl
theorem snd_kcons {n : Nat} {nm : Option Str} {kp : Pos} {e : IE} {es : List (Nat × IE)} {xs : List Keyword} (ha : PE X a (rdE G pn W (ev c e))) (hr : PK X xs (rdK G pn W (evk c es))) : PK X (⟨nm, a, kp⟩ :: xs) (rdK G pn W (evk c ((n, e) :: es))) := by
  refine L2.PK.imp (pk_cons ha hr) fun σ H Q ⟨φ, sl, L, hR, hS, hF⟩ => ?_
  simp only [evk] at hF
  refine (bindE hR hS hF).mono fun v H1 ⟨φ1, L1, x, hR1, e1, r1, hS1, hF1⟩ => (bindK hR1 hS1 hF1).mono fun vs H2 ⟨φ2, L2, ys, hR2, e2, r2, hS2, hF2⟩ => ?_
  exact hF2 φ2 _ H2 hR2 (Ext.refl _ _ _ _) ⟨v, vs, rfl, RV.go e2 r1, r2⟩
theorem dats_rv {φ : List Addr} {O : Addr → Prop} : ∀ {xs : List V2} {ds : List D} {vs : List V}, dats xs = some ds → RVs G pn φ O H xs vs → RDs G O H ds vs
  | [], ds, vs, e, r => by
    cases e
    exact r
  | .val x :: xs, ds, vs, e, r => by
    obtain ⟨v, q, rfl, h1, h2⟩ := r
    simp only [dats] at e
    cases h : dats xs with
    | none => rw [h] at e; cases e
    | some ys =>
      rw [h] at e
      cases e
      exact ⟨v, q, rfl, h1, dats_rv h h2⟩
  | .ref _ :: xs, ds, vs, e, r => by cases e
  | .exn _ _ :: xs, ds, vs, e, r => by cases e
theorem snd_tup {es : List IE} {xs : List Expr} (h : PA X xs (rdA G pn W (evs c es))) : ∀ {j}, PE X (.Tuple xs j p) (rdE G pn W (ev c (.tup es))) := by
  intro j
  refine (pe_tup h).imp fun σ H Q ⟨φ, sl, L, hR, hS, hF⟩ => ?_
  simp only [ev] at hF
  refine (bindA hR hS hF).mono fun vs H1 ⟨φ1, L1, x, hR1, e1, r1, hS1, hF1⟩ => ?_
  cases e : dats x with
  | none => rw [e] at hF1; exact hF1.elim
  | some ds => rw [e] at hF1; exact fin_newT hR1 hF1 (dats_rv e r1)
theorem snd_lst {own : Bool} {es : List IE} {xs : List Expr} (h : PA X xs (rdA G pn W (evs c es))) : PE X (.List xs p) (rdE G pn W (ev c (.lst own es))) := by
  refine (pe_lst h).imp fun σ H Q ⟨φ, sl, L, hR, hS, hF⟩ => ?_
  simp only [ev] at hF
  refine (bindA hR hS hF).mono fun vs H1 ⟨φ1, L1, x, hR1, e1, r1, hS1, hF1⟩ => ?_
  cases e : dats x with
  | none => rw [e] at hF1; exact hF1.elim
  | some ds => rw [e] at hF1; exact fin_newL hR1 hF1 (dats_rv e r1)
theorem cmpR_b {op : OpC} {x y : V2} {L : LH} {α : Type} {RelB : List Addr → LH → Hp → α → V → Prop} : (∃ b, cmpR op x y L = .ok (.val (.bl b)) L) ∨ cmpR op x y L = .stuck := by
  unfold cmpR
  split
  · exact .inl ⟨_, rfl⟩
  · exact .inr rfl
theorem bls_chain {o1 o2 : OpC} {e f g : IE} : Bls (ev c (.chain o1 o2 e f g)) := by
  intro sl L x L' h
  simp only [ev] at h
  cases h1 : ev c e sl L with
  | stuck => rw [h1] at h; cases h
  | exc C fs L1 => rw [h1] at h; cases h
  | ok y L1 =>
    rw [h1] at h
    simp only [R.bind_ok] at h
    cases h2 : ev c f sl L1 with
    | stuck => rw [h2] at h; cases h
    | exc C fs L1 => rw [h2] at h; cases h
    | ok z L2 =>
      rw [h2] at h
      simp only [R.bind_ok] at h
      rcases cmpR_b (op := o1) (x := y) (y := z) (L := L2) (α := V2) (RelB := fun _ _ _ _ _ => True) with ⟨b, hb⟩ | hb
      · rw [hb] at h
        simp only [R.bind_ok] at h
        cases b with
        | false => cases h; exact ⟨_, rfl⟩
        | true =>
          simp only at h
          cases h3 : ev c g sl L2 with
          | stuck => rw [h3] at h; cases h
          | exc C fs L1 => rw [h3] at h; cases h
          | ok w L3 =>
            rw [h3] at h
            simp only [R.bind_ok] at h
            rcases cmpR_b (op := o2) (x := z) (y := w) (L := L3) (α := V2) (RelB := fun _ _ _ _ _ => True) with ⟨b, hb⟩ | hb
            · rw [hb] at h; cases h; exact ⟨_, rfl⟩
            · rw [hb] at h; cases h
      · rw [hb] at h; cases h
theorem rd_chain {o1 o2 : OpC} {e f g : IE} {Q : VK} (h : rdE G pn W (ev c (.chain o1 o2 e f g)) σ H Q) : tChain (rd2 G pn (cmpR o1)) (rd2 G pn (cmpR o2)) (rdE G pn W (ev c e)) (rdE G pn W (ev c f)) (rdE G pn W (ev c g)) σ H Q := by
  obtain ⟨φ, sl, L, hR, hS, hF⟩ := h
  simp only [ev] at hF
  refine (bindE hR hS hF).mono fun u H1 ⟨φ1, L1, x, hR1, e1, r1, hS1, hF1⟩ => (bindE hR1 hS1 hF1).mono fun v H2 ⟨φ2, L2, y, hR2, e2, r2, hS2, hF2⟩ => ?_
  refine ⟨WEx G W σ, φ2, L2, x, y, hR2, RV.go e2 r1, r2, ?_⟩
  rcases cmpR_b (op := o1) (x := x) (y := y) (L := L2) (α := V2) (RelB := fun _ _ _ _ _ => True) with ⟨b, hb⟩ | hb
  · rw [hb] at hF2 ⊢
    simp only [R.bind_ok] at hF2
    intro φ3 w H3 hR3 e3 r3
    refine ⟨b, r3, ?_⟩
    cases b with
    | false => exact hF2 φ3 _ H3 hR3 e3 rfl
    | true =>
      have hF3 := Fin.ext e3 hF2
      exact (bindE hR3 (hS2.go e3) hF3).mono fun w H4 ⟨φ4, L4, z, hR4, e4, r4, hS4, hF4⟩ => ⟨_, φ4, L4, y, z, hR4, RV.go e4 (RV.go e3 r2), r4, hF4⟩
  · rw [hb] at hF2; exact hF2.elim
theorem snd_chain (hK : X.K = G.K) (hu : X.A.units + 64 < cLine) {o1 o2 : OpC} {e f g : IE} (hm : notSet d = true) (ha : PE X a (rdE G pn W (ev c e))) (hb : PE X b (rdE G pn W (ev c f))) (hd : PE X d (rdE G pn W (ev c g))) :
    PE X (.Compare a [o1.py, o2.py] [b, d] p) (rdE G pn W (ev c (.chain o1 o2 e f g))) ∧ PT X (.Compare a [o1.py, o2.py] [b, d] p) (rdT G pn W (evt c (.chain o1 o2 e f g))) := by
  have hmk : lastMarks [o1.py, o2.py] [b, d] = false := mark_of (op := o2) hm
  exact ⟨(pe_chain (ok_cmp (pn := pn) hK hu o1) (ok_cmp (pn := pn) hK hu o2) ha hb hd hmk).imp fun σ H Q q => rd_chain q,
    (pt_chain (ok_cmp (pn := pn) hK hu o1) (ok_cmp (pn := pn) hK hu o2) ha hb hd hmk).imp fun σ H Q q => rd_chain (trub bls_chain q)⟩
end
end PI

set_option maxRecDepth 100000
set_option maxHeartbeats 1000000
namespace PI
open PySem PySem.Spec PyProof.Rows L2

theorem okEs_star {T : Tb} {sc : Scope} {N : List Str} {env : Env} : ∀ {es : List IE} {xs : List Expr}, okEs T es sc N xs = true → ∀ pos, (backTo pos (starEach xs env)).any (·.1) = false
  | [], [], _, _ => rfl
  | _ :: _, [], h, _ => ff h
  | [], _ :: _, h, _ => ff h
  | e :: es, x :: xs, h, pos => by
    have hs : notStar x = true := a2 (a1 h)
    have q := okEs_star (env := env) (a2 h) pos
    have e1 : starEach (x :: xs) env = (false, eval x env) :: starEach xs env := by cases x <;> first | exact ff hs | rfl
    rw [e1]
    show (false || (backTo pos (starEach xs env)).any (·.1)) = false
    rw [q]
    rfl
theorem okEs_len {T : Tb} {sc : Scope} {N : List Str} : ∀ {es : List IE} {xs : List Expr}, okEs T es sc N xs = true → es.length = xs.length
  | [], [], _ => rfl
  | _ :: _, [], h => ff h
  | [], _ :: _, h => ff h
  | e :: es, x :: xs, h => by simp [okEs_len (a2 h)]
theorem okKs_all {T : Tb} {sc : Scope} {N : List Str} {env : Env} : ∀ {es : List (Nat × IE)} {xs : List Keyword}, okKs T es sc N xs = true → ∀ pos,
    (backToKw pos (keywordEach xs env)).all (·.1.isSome) = true ∧ (backToKw pos (keywordEach xs env)).filterMap (·.1) = es.map (fun p => T.nm p.1) ∧ (backToKw pos (keywordEach xs env)).any (·.1.isNone) = false
  | [], [], _, _ => ⟨rfl, rfl, rfl⟩
  | _ :: _, [], h, _ => ff h
  | [], _ :: _, h, _ => ff h
  | (k, e) :: es, ⟨none, x, kp⟩ :: xs, h, pos => ff h
  | (k, e) :: es, ⟨some n, x, kp⟩ :: xs, h, pos => by
    have hn : n = T.nm k := of_decide_eq_true (a1 (a1 h))
    obtain ⟨q1, q2, q3⟩ := okKs_all (env := env) (a2 h) pos
    subst hn
    refine ⟨?_, ?_, ?_⟩
    · show (true && (backToKw pos (keywordEach xs env)).all (·.1.isSome)) = true
      rw [q1]; rfl
    · show T.nm k :: (backToKw pos (keywordEach xs env)).filterMap (·.1) = _
      rw [q2]; rfl
    · show (false || (backToKw pos (keywordEach xs env)).any (·.1.isNone)) = false
      rw [q3]; rfl
theorem any_or {α : Type} {l : List α} {f : α → Bool} {m : List α} {g : α → Bool} (h1 : l.any f = false) (h2 : m.any g = false) : (l.any f || m.any g) = false := by rw [h1, h2]; rfl
section
variable {G : Gd} {T : Tb} {P : Prog} {hot : Bool} {k : Nat} {pn : Pn} {W : WX} {X : Cx} {x : Str} {p pos : Pos}
theorem take_pre {α : Type} {a b c : List α} {n : Nat} (h : a <+: b) (hb : b <+: c) (hn : b.length = n) : a <+: c.take n := by
  obtain ⟨t, rfl⟩ := hb
  rw [List.take_append_of_le_length (by omega), List.take_of_length_le (by omega)]
  exact h
/-- a def's answer, frozen -/
theorem fin_frz {own : Bool} {φ : List Addr} {L : LH} {H : Hp} {Wt : WT} {Q : VK} {r : R V2} (hR : HR G φ L H) (h : Fin G (RelV2 G pn) Wt φ L H Q (r.bind fun x L3 => frzd own L.length x L3)) : Fin G (RelV2 G pn) Wt φ L H Q r := by
  cases r with
  | exc C fs L1 => exact h
  | stuck => exact h
  | ok x L3 =>
    simp only [R.bind_ok] at h
    cases own with
    | true => exact h
    | false =>
      intro φ' v H' h1 e1 r1
      cases x with
      | val d => exact h φ' v H' h1 e1 r1
      | exn C fs => exact h φ' v H' h1 e1 r1
      | ref n =>
        simp only [frzd] at h
        by_cases hn : n = L.length
        · rw [if_pos hn] at h
          obtain ⟨a, rfl, ha⟩ := r1
          have go : ∀ o, L3[n]? = some o → o ≠ .dead → HR G (φ'.take n) (L3.take n) H' ∧ Ext G φ L H (φ'.take n) (L3.take n) H' ∧ ¬ Own G (φ'.take n) (L3.take n) a ∧ Stp (Own G φ' L3) H' (Own G (φ'.take n) (L3.take n)) H' := fun o ho hd => by
            obtain ⟨t1, t2⟩ := h1.trunc n
            refine ⟨t1, ⟨e1.stp.trans t2, take_pre (List.prefix_refl _) e1.pre (by rw [hR.len]; exact hn.symm), e1.held⟩, fun z => ?_, t2⟩
            rcases z with ⟨i, u, z1, z2, z3⟩ | z
            · have hi : i < n := by
                have := (List.getElem?_eq_some_iff.mp z1).1
                rw [List.length_take] at this
                omega
              have z1' : L3[i]? = some u := by rw [List.getElem?_take_of_lt hi] at z1; exact z1
              have z3' : φ'[i]? = some a := by rw [List.getElem?_take_of_lt hi] at z3; exact z3
              have := h1.inj i n u o a z1' z2 ho hd z3' ha
              omega
            · exact (h1.res a z).2 ⟨n, o, ho, hd, ha⟩
          cases hl : L3[n]? with
          | none => rw [hl] at h; exact h.elim
          | some o =>
            rw [hl] at h
            cases o with
            | dead => exact h.elim
            | lst xs =>
              obtain ⟨g1, g2, g3, g4⟩ := go _ hl (by intro z; cases z)
              obtain ⟨vs, q1, q2⟩ := h1.at_ n _ a hl ha
              exact h _ _ H' g1 g2 ⟨a, vs, rfl, ⟨.inl q1, g3⟩, RDs.go g4 xs vs q2⟩
            | dct kvs =>
              obtain ⟨g1, g2, g3, g4⟩ := go _ hl (by intro z; cases z)
              obtain ⟨ks, q1, q2⟩ := h1.at_ n _ a hl ha
              exact h _ _ H' g1 g2 ⟨a, ks, rfl, ⟨q1, g3⟩, RDk.go g4 kvs ks q2⟩
            | ins C fs =>
              obtain ⟨g1, g2, g3, g4⟩ := go _ hl (by intro z; cases z)
              obtain ⟨dx, gs, q1, q2⟩ := h1.at_ n _ a hl ha
              exact h _ _ H' g1 g2 ⟨a, dx, gs, rfl, ⟨q1, g3⟩, RDf.go g4 fs gs q2⟩
        · rw [if_neg hn] at h
          exact h φ' v H' h1 e1 r1
theorem RVs.go {φ φ' : List Addr} {L L' : LH} {H H' : Hp} (e : Ext G φ L H φ' L' H') : ∀ {xs : List V2} {vs : List V}, RVs G pn φ (Own G φ L) H xs vs → RVs G pn φ' (Own G φ' L') H' xs vs
  | [], _, h => h
  | x :: xs, _, ⟨v, r, e1, h1, h2⟩ => ⟨v, r, e1, RV.go e h1, RVs.go e h2⟩
/-- the callee runs -/
theorem run_call (A : Am G T P hot k pn W X) {f : Nat} {own : Bool} (hf : f ∈ T.fns) {fA : Addr} (hm : X.mg (T.nm f) = some (.ref fA)) {pins : List (Addr × Obj)} {σ : L2.St} {φ : List Addr} {L : LH} {H : Hp} {s : Shared} {Q : VK} {us ws : List Value} {vs ks : List V} {xs : List V2} {ys : List (Nat × V2)}
    (I : Inv X pins σ H s) (hR : HR G φ L H) (r1 : RVs G pn φ (Own G φ L) H xs vs) (r2 : RVs G pn φ (Own G φ L) H (ys.map (·.2)) ks) (v1 : Vals vs us) (v2 : Vals ks ws)
    (hF : Fin G (RelV2 G pn) (WEx G W σ) φ L H Q (match (cl P hot k).bind f xs ys with
      | some zs => ((cl P hot k).call f zs L).bind fun r L3 => frzd own L.length r L3
      | none => .stuck)) : wpAny (model X.prog X.w) X.A (PySem.call (.ref fA) us ((ys.map fun p => T.nm p.1).zip ws)) (EP X pins σ Q) X.xe s := by
  obtain ⟨fd, ps, hb, F⟩ := A.fn f hf fA hm
  cases hz : (cl P hot k).bind f xs ys with
  | none => rw [hz] at hF; exact hF.elim
  | some zs =>
    rw [hz] at hF
    have hKin : G.K.In s.heap := by rw [← A.hK]; exact I.kIn
    obtain ⟨us', vs', b, w1, w2, hl⟩ := hb s xs ys zs us ws vs ks pn φ _ H G.B hKin hz r1 r2 v1 v2
    rw [show G.nm = T.nm from A.ft.nm] at b
    have e0 := I.env0
    rw [A.hK] at e0
    refine wpAny_call (codeAny_mono (F.run G.B pn X.A X.stack s H ⟨us, _⟩ us' vs' zs φ L Q (fun cls d H' => W cls d σ H') A.room (fun h => ⟨I.ok.hd (A.calm h), A.pn0 h⟩) A.pnH (fun q hq => ?_) e0 b w1 hl hR w2 ?_) fun r s' hq => ?_)
    · have P1 := I.pin q (List.mem_append_left _ (A.pns q hq))
      exact ⟨P1.1, P1.2.1, fun hm => (List.mem_cons.mp (I.stkSub q.1 hm)).elim P1.2.2.1 P1.2.2.2.1, P1.2.2.2.2⟩
    · exact fin_frz hR hF
    · cases r with
      | error e => exact A.tk _ _ (L2N.XE.of_call I (fun _ _ _ h => h) hq)
      | ok fl =>
        cases fl with
        | ret u => exact I.after hq
        | next => exact False.elim hq
        | brk => exact False.elim hq
        | cont => exact False.elim hq
theorem evk_names {c : Cl} : ∀ {es : List (Nat × IE)} {sl : SL} {L L' : LH} {ys : List (Nat × V2)}, evk c es sl L = .ok ys L' → ys.map (·.1) = es.map (·.1)
  | [], sl, L, L', ys, h => by
    simp only [evk] at h
    cases h
    rfl
  | (n, e) :: es, sl, L, L', ys, h => by
    simp only [evk] at h
    cases h1 : ev c e sl L with
    | stuck => rw [h1] at h; cases h
    | exc C fs L1 => rw [h1] at h; cases h
    | ok y L1 =>
      rw [h1] at h
      simp only [R.bind_ok] at h
      cases h2 : evk c es sl L1 with
      | stuck => rw [h2] at h; cases h
      | exc C fs L1 => rw [h2] at h; cases h
      | ok zs L2 =>
        rw [h2] at h
        simp only [R.bind_ok] at h
        cases h
        simp [evk_names h2]
theorem evk_bind {c : Cl} {α : Type} (es : List (Nat × IE)) (sl : SL) (L : LH) (g : List (Nat × V2) → LH → R α) : (evk c es sl L).bind g = (evk c es sl L).bind fun ys L2 => if ys.map (·.1) = es.map (·.1) then g ys L2 else .stuck := by
  cases h : evk c es sl L with
  | stuck => rfl
  | exc C fs L1 => rfl
  | ok ys L2 => simp only [R.bind_ok, if_pos (evk_names h)]
theorem snd_call (A : Am G T P hot k pn W X) {f : Nat} {own : Bool} {es : List IE} {ks : List (Nat × IE)} {args : List Expr} {kws : List Keyword} (hx : x = T.nm f) (hf : f ∈ T.fns) (hl : X.env.scope.names.lookup x = some .globalImplicit) (hd : dbgB x = false)
    (ok1 : okEs T es X.env.scope X.N args = true) (ok2 : okKs T ks X.env.scope X.N kws = true) (ha : PA X args (rdA G pn W (evs (cl P hot k) es))) (hk : PK X kws (rdK G pn W (evk (cl P hot k) ks))) : PE X (.Call (.Name x p) args kws pos) (rdE G pn W (ev (cl P hot k) (.call own f es ks))) := by
  subst hx
  obtain ⟨fA, hm, hkp⟩ := A.ft.fns f hf
  rw [← A.hK] at hkp
  refine ⟨fun pins s σ H Q I h => ?_⟩
  obtain ⟨φ, sl, L, hR, hS, hF⟩ := h
  simp only [ev] at hF
  obtain ⟨k1, k2, k3⟩ := okKs_all (env := X.env) ok2 pos
  refine wpAny_Call_Name_kw (ld_glob I hl hm ?_ hd)
  cases args with
  | nil =>
    cases es with
    | cons _ _ => exact ff ok1
    | nil =>
      simp only [evs, R.bind_ok] at hF
      rw [evk_bind] at hF
      refine PySem.W.callWith_KW0 (h₀ := X.base) I.ok.mod.kin hkp k1 (thn (hk.run pos pins s σ H _ I (bindK hR hS hF)) fun ws s2 ⟨zs, H2, I2, rz, φ2, L2, ys, hR2, e2, r2, hS2, hF2⟩ => ⟨I2.kIn, ?_⟩) (by rw [k3]; rfl)
      rw [k2]
      by_cases e3 : ys.map (·.1) = ks.map (·.1)
      · rw [if_pos e3] at hF2
        have e4 : (ks.map fun p => T.nm p.1) = ys.map fun p => T.nm p.1 := by
          have := congrArg (List.map T.nm) e3
          rw [List.map_map, List.map_map] at this
          exact this.symm
        rw [e4]
        exact run_call A (us := []) (vs := []) (xs := []) hf hm I2 hR2 rfl r2 .nil rz hF2
      · rw [if_neg e3] at hF2; exact hF2.elim
  | cons e r =>
    have hstar : notStar e = true := by
      cases es with
      | nil => exact ff ok1
      | cons _ _ => exact a2 (a1 ok1)
    refine PySem.W.callWith_KW (h₀ := X.base) I.ok.mod.kin hkp k1 (thn (ha.run pos pins s σ H _ I (bindA hR hS hF)) fun us s1 ⟨vs, H1, I1, r, φ1, L1, xs, hR1, e1, r1, hS1, hF1⟩ => ?_) (by rw [okEs_star (env := X.env) ok1 pos, k3]; rfl) (star_of hstar)
    rw [evk_bind] at hF1
    refine thn (hk.run pos pins s1 σ H1 _ I1 (bindK hR1 hS1 hF1)) fun ws s2 ⟨zs, H2, I2, rz, φ2, L2, ys, hR2, e2, r2, hS2, hF2⟩ => ⟨I2.kIn, ?_⟩
    rw [k2]
    by_cases e3 : ys.map (·.1) = ks.map (·.1)
    · rw [if_pos e3] at hF2
      have e4 : (ks.map fun p => T.nm p.1) = ys.map fun p => T.nm p.1 := by
        have := congrArg (List.map T.nm) e3
        rw [List.map_map, List.map_map] at this
        exact this.symm
      rw [e4]
      exact run_call A hf hm I2 hR2 (RVs.go e2 r1) r2 r rz hF2
    · rw [if_neg e3] at hF2; exact hF2.elim
end
end PI

set_option maxRecDepth 100000
set_option maxHeartbeats 1000000
namespace PI
open PySem PySem.Spec PyProof.Rows L2
section
variable {G : Gd} {pn : Pn} {W : WX} {X : Cx} {c : Cl} {x : Str} {p pos : Pos}
/-- f(..), by the arguments' values -/
theorem argsN {f : List V2 → LH → R V2} {es : List IE} {σ : L2.St} {H : Hp} {Q : VK} (hq : rdE G pn W (fun sl L => (evs c es sl L).bind fun xs L1 => f xs L1) σ H Q) : tCB (rdN G pn f) (rdA G pn W (evs c es)) σ H Q := by
  obtain ⟨φ, sl, L, hR, hS, hF⟩ := hq
  exact (bindA hR hS hF).mono fun vs H1 ⟨φ1, L1, xs, hR1, e1, r1, hS1, hF1⟩ => ⟨_, φ1, L1, xs, hR1, r1, hF1⟩
theorem snd_bi (hK : X.K = G.K) (hu : X.A.units + 64 < cLine) (hcalm : c.hot = false → X.calm = true) {own : Bool} {b : BI} {es : List IE} {args : List Expr} (hon : b.on = true) (hx : x = Str.ofString b.name) (hm : X.mg x = none) (hl : X.env.scope.names.lookup x = some .globalImplicit) (hd : dbgB x = false) (hne : args ≠ [])
    (hst : ∀ pos, (backTo pos (starEach args X.env)).any (·.1) = false) (ha : PA X args (rdA G pn W (evs c es))) : PE X (.Call (.Name x p) args [] pos) (rdE G pn W (ev c (.bi own b es))) := by
  cases args with
  | nil => exact absurd rfl hne
  | cons e r =>
    have h0 := hst pos
    have hs : starEach (e :: r) X.env = (false, eval e X.env) :: starEach r X.env := by
      cases e <;> first | rfl | exact absurd h0 (by show (true || _) ≠ false; simp)
    rw [hs] at h0
    have hpl : (backTo pos (starEach r X.env)).any (·.1) = false := h0
    have go : ∀ {f : List V2 → LH → R V2} σ H Q, (c.hot && b.calm) = false → f = biV own b → rdE G pn W (ev c (.bi own b es)) σ H Q → rdE G pn W (fun sl L => (evs c es sl L).bind fun xs L1 => f xs L1) σ H Q := fun {f} σ H Q hc hf ⟨φ, sl, L, hR, hS, hF⟩ => by
      subst hf
      simp only [ev, hc, Bool.false_eq_true, if_false] at hF
      exact ⟨φ, sl, L, hR, hS, hF⟩
    subst hx
    cases b <;> first | exact ff hon | skip
    · exact (pe_callB (ok_len (pn := pn) hK own) hl hm boot_len ha (by decide) hd hs hpl).imp fun σ H Q q => argsN (go σ H Q (by simp [BI.calm]) rfl q)
    · exact (pe_callTy (ok_intC (G := G) (pn := pn) own) hl hm PyProof.Rows.boot_int ha (by decide) hd hs hpl).imp fun σ H Q q => argsN (go σ H Q (by simp [BI.calm]) rfl q)
    · cases hh : c.hot with
      | true => exact ⟨fun pins s σ H Q I ⟨φ, sl, L, hR, hS, hF⟩ => by simp [ev, hh, BI.calm, Fin] at hF⟩
      | false => exact (pe_callB (ok_all (G := G) (pn := pn) (hcalm hh) own) hl hm PyProof.Rows.boot_all ha (by decide) hd hs hpl).imp fun σ H Q q => argsN (go σ H Q (by simp [hh]) rfl q)
    · cases hh : c.hot with
      | true => exact ⟨fun pins s σ H Q I ⟨φ, sl, L, hR, hS, hF⟩ => by simp [ev, hh, BI.calm, Fin] at hF⟩
      | false => exact (pe_callB (ok_any (G := G) (pn := pn) (hcalm hh) own) hl hm PyProof.Rows.boot_any ha (by decide) hd hs hpl).imp fun σ H Q q => argsN (go σ H Q (by simp [hh]) rfl q)
    · cases hh : c.hot with
      | true => exact ⟨fun pins s σ H Q I ⟨φ, sl, L, hR, hS, hF⟩ => by simp [ev, hh, BI.calm, Fin] at hF⟩
      | false => exact (pe_callB (ok_sorted (G := G) (pn := pn) hK hu own) hl hm PyProof.Rows.boot_sorted ha (by decide) hd hs hpl).imp fun σ H Q q => argsN (go σ H Q (by simp [hh]) rfl q)
    · exact (pe_callTy (ok_list (pn := pn) hK own) hl hm PyProof.Rows.boot_list ha (by decide) hd hs hpl).imp fun σ H Q q => argsN (go σ H Q (by simp [BI.calm]) rfl q)
    · exact (pe_callTy (ok_tuple (pn := pn) hK own) hl hm PyProof.Rows.boot_tuple ha (by decide) hd hs hpl).imp fun σ H Q q => argsN (go σ H Q (by simp [BI.calm]) rfl q)
    · cases hh : c.hot with
      | true => exact ⟨fun pins s σ H Q I ⟨φ, sl, L, hR, hS, hF⟩ => by simp [ev, hh, BI.calm, Fin] at hF⟩
      | false => exact (pe_callB (ok_sum (G := G) (pn := pn) (hcalm hh) own) hl hm PyProof.Rows.boot_sum ha (by decide) hd hs hpl).imp fun σ H Q q => argsN (go σ H Q (by simp [hh]) rfl q)
    · cases hh : c.hot with
      | true => exact ⟨fun pins s σ H Q I ⟨φ, sl, L, hR, hS, hF⟩ => by simp [ev, hh, BI.calm, Fin] at hF⟩
      | false => exact (pe_callB (ok_abs (G := G) (pn := pn) own) hl hm PyProof.Rows.boot_abs ha (by decide) hd hs hpl).imp fun σ H Q q => argsN (go σ H Q (by simp [hh]) rfl q)
    · cases hh : c.hot with
      | true => exact ⟨fun pins s σ H Q I ⟨φ, sl, L, hR, hS, hF⟩ => by simp [ev, hh, BI.calm, Fin] at hF⟩
      | false => exact (pe_callB ((ok_mm (G := G) (pn := pn) (hcalm hh) own).2) hl hm PyProof.Rows.boot_min ha (by decide) hd hs hpl).imp fun σ H Q q => argsN (go σ H Q (by simp [hh]) rfl q)
    · cases hh : c.hot with
      | true => exact ⟨fun pins s σ H Q I ⟨φ, sl, L, hR, hS, hF⟩ => by simp [ev, hh, BI.calm, Fin] at hF⟩
      | false => exact (pe_callB ((ok_mm (G := G) (pn := pn) (hcalm hh) own).1) hl hm PyProof.Rows.boot_max ha (by decide) hd hs hpl).imp fun σ H Q q => argsN (go σ H Q (by simp [hh]) rfl q)
theorem base_of {o : Expr} {name : Str} {env : Env} (h : notCall0 o = true) (t : Sem Value) : attributeBase o name env t = t := by
  cases o <;> first | rfl | skip
  rename_i f args kws q
  cases f <;> first | rfl | skip
  cases args <;> first | rfl | skip
  cases kws <;> first | rfl | exact ff h
theorem ty_of (hK : X.K = G.K) {m : MI} {x : V2} {v : V} {φ : List Addr} {L : LH} {H : Hp} (hR : HR G φ L H) (r : RV G pn φ (Own G φ L) H x v) (h : methTy m x L = true) : tyV X.K m.ty v H := by
  unfold methTy at h
  split at h
  · rename_i e
    rw [e]
    cases q : x.lst? L with
    | none => rw [q] at h; cases h
    | some xs =>
      obtain ⟨a, vs, rfl, t, _⟩ := RV.lst hR r q
      exact .inl ⟨rfl, vs, .inl t⟩
  · rename_i e
    rw [e]
    split at h
    · obtain ⟨rfl, _⟩ := (show _ = V.str _ ∧ _ from r)
      exact rfl
    · cases h
  · cases h
theorem few_of {args : List Expr} {env : Env} {pos : Pos} (hn : args.length < 20) (hst : ∀ pos, (backTo pos (starEach args env)).any (·.1) = false) :
    ((backTo pos (starEach args env)).all (fun x => !x.1) && (backToKw pos (keywordEach [] env)).all (fun x => x.1.isSome)
      && decide (args.length + ([] : List Keyword).length + (if ([] : List Keyword).isEmpty then 0 else 1) < 30)) = true := by
  have h := hst pos
  rw [List.any_eq_false] at h
  simp only [Bool.and_eq_true, List.all_eq_true, decide_eq_true_eq]
  refine ⟨⟨fun y hy => by simpa using h y hy, fun y hy => by cases hy⟩, by simp; omega⟩
/-- a method, by the values -/
theorem meth_go (hK : X.K = G.K) {m : MI} {id : String} {own : Bool} {o : Expr} {name : Str} {args : List Expr} {e : IE} {es : List IE} {apos cpos : Pos} (pa : PlainAttrs m.ty) (slot : Slot m.ty name id) (hty : typeOf (.builtin id) = pure (.type "method_descriptor"))
    (hm : MtR X id (rdM G pn (methV own m))) (hb : notCall0 o = true) (hline : (apos.endLine == cpos.line) = true) (hn : args.length < 20) (hst : ∀ pos, (backTo pos (starEach args X.env)).any (·.1) = false) (hlen : es.length = args.length)
    (ho : PE X o (rdE G pn W (ev c e))) (ha : PA X args (rdA G pn W (evs c es))) : PE X (.Call (.Attribute o name apos) args [] cpos) (rdE G pn W (ev c (.meth own m e es))) := by
  cases args with
  | nil =>
    cases es with
    | cons _ _ => cases hlen
    | nil =>
      refine (pe_bm0 pa slot hty hm ho (base_of hb _) hline).imp fun σ H Q ⟨φ, sl, L, hR, hS, hF⟩ => ?_
      simp only [ev, evs, R.bind_ok] at hF
      refine (bindE hR hS hF).mono fun v H1 ⟨φ1, L1, x, hR1, e1, r1, hS1, hF1⟩ => ?_
      by_cases ht : methTy m x L1 = true
      · rw [if_pos ht] at hF1
        exact ⟨ty_of hK hR1 r1 ht, _, φ1, L1, x, [], hR1, r1, rfl, hF1⟩
      · rw [if_neg ht] at hF1; exact hF1.elim
  | cons a r =>
    have h0 := hst cpos
    have hs : starEach (a :: r) X.env = (false, eval a X.env) :: starEach r X.env := by
      cases a <;> first | rfl | exact absurd h0 (by show (true || _) ≠ false; simp)
    have hpl : (backTo cpos (starEach r X.env)).any (·.1) = false := by rw [hs] at h0; exact h0
    refine (pe_bm pa slot hty hm ho ha (base_of hb _) (few_of hn hst) hline hs hpl).imp fun σ H Q ⟨φ, sl, L, hR, hS, hF⟩ => ?_
    simp only [ev] at hF
    refine (bindE hR hS hF).mono fun v H1 ⟨φ1, L1, x, hR1, e1, r1, hS1, hF1⟩ => ?_
    by_cases ht : methTy m x L1 = true
    · rw [if_pos ht] at hF1
      refine ⟨ty_of hK hR1 r1 ht, (bindA hR1 hS1 hF1).mono fun vs H2 ⟨φ2, L2, xs, hR2, e2, r2, hS2, hF2⟩ => ?_⟩
      exact ⟨_, φ2, L2, x, xs, hR2, RV.go e2 r1, r2, hF2⟩
    · rw [if_neg ht] at hF1; exact hF1.elim
theorem snd_meth (hK : X.K = G.K) {m : MI} {own : Bool} {o : Expr} {name : Str} {args : List Expr} {e : IE} {es : List IE} {apos cpos : Pos} (hon : m.on = true) (hname : name = Str.ofString m.name) (hb : notCall0 o = true) (hline : (apos.endLine == cpos.line) = true) (hn : args.length < 20)
    (hst : ∀ pos, (backTo pos (starEach args X.env)).any (·.1) = false) (hlen : es.length = args.length) (ho : PE X o (rdE G pn W (ev c e))) (ha : PA X args (rdA G pn W (evs c es))) : PE X (.Call (.Attribute o name apos) args [] cpos) (rdE G pn W (ev c (.meth own m e es))) := by
  subst hname
  cases m <;> first | exact ff hon | skip
  · exact meth_go (m := .lAppend) hK F.plainAttrs_list F.slot_list_append rfl (ok_append own) hb hline hn hst hlen ho ha
  · exact meth_go (m := .lInsert) hK F.plainAttrs_list F.slot_list_insert rfl (ok_insert own) hb hline hn hst hlen ho ha
  · exact meth_go (m := .lPop) hK F.plainAttrs_list F.slot_list_pop rfl (ok_pop own) hb hline hn hst hlen ho ha
  · exact meth_go (m := .lPopAt) hK F.plainAttrs_list F.slot_list_pop rfl (ok_popAt own) hb hline hn hst hlen ho ha
  · exact meth_go (m := .lReverse) hK F.plainAttrs_list F.slot_list_reverse rfl (ok_reverse own) hb hline hn hst hlen ho ha
  · exact meth_go (m := .sUpper) hK F.plainAttrs_str F.slot_str_upper rfl (ok_upper own) hb hline hn hst hlen ho ha
  · exact meth_go (m := .sCount) hK F.plainAttrs_str F.slot_str_count rfl (ok_scount own) hb hline hn hst hlen ho ha
  · exact meth_go (m := .sFind) hK F.plainAttrs_str F.slot_str_find rfl (ok_find own) hb hline hn hst hlen ho ha
end
end PI

set_option maxRecDepth 100000
set_option maxHeartbeats 1000000
namespace PI
open PySem PySem.Spec PyProof.Rows L2
def TV.val (cn : Nat → Addr) : TV → Value
  | .ty n => .type n
  | .own C => .ref (cn C)
  | .exn C => .ref (cn C)
def IC.val (cn : Nat → Addr) : IC → Value
  | .ty n => .type n
  | .own C => .ref (cn C)
def IC.v (cn : Nat → Addr) : IC → V
  | .ty n => .ty n
  | .own C => .ref (cn C)
theorem IC.clsv (cn : Nat → Addr) : ∀ c : IC, ClsV (c.v cn) (c.val cn)
  | .ty n => .ty n
  | .own C => .own (cn C)
theorem kitOk_eq {K : PySem.W.Frag} {cn : Nat → Addr} {t : TV} {c : IC} {b : Bool} (h : KitOk K cn t c b) : PySem.W.kitOne K (t.val cn) (c.val cn) = some b := by
  cases t <;> cases c <;> exact h
section
variable {G : Gd} {T : Tb} {P : Prog} {hot : Bool} {k : Nat} {pn : Pn} {W : WX} {X : Cx} {x : Str} {p pos : Pos}
theorem kits_any {t : TV} : ∀ {cs : List IC} {b : Bool}, (∀ c b, P.kit t c = some b → KitOk G.K G.cn t c b) → kits P.kit t cs = some b → PySem.W.kitAny G.K (t.val G.cn) (cs.map (IC.val G.cn)) = some b
  | [], b, _, h => by cases h; rfl
  | c :: r, b, hk, h => by
    simp only [kits] at h
    cases e : P.kit t c with
    | none => rw [e] at h; cases h
    | some q =>
      rw [e] at h
      have z := kitOk_eq (hk c q e)
      cases q with
      | true =>
        cases h
        exact kitAny_cons z (fun y => by cases y) fun _ => rfl
      | false => exact kitAny_cons z (fun _ => kits_any hk h) fun y => by cases y
theorem rdT_tup {K : PySem.W.Frag} {O : Addr → Prop} {H : Hp} {a : Addr} {vs : List V} (h : TupAt K O H a vs) : TyX K H (.ref a) (.type "tuple") := by
  rcases h with ⟨h | ⟨o, h⟩, _⟩ | h
  · exact .base (.tup h)
  · exact .fTuple h
  · rcases h (fun _ => none) with (h | ⟨o, h⟩) | ⟨o, its, n, hk, hc, _⟩
    · cases h
    · cases h
    · exact .kTuple hk hc
theorem tyy_of {φ : List Addr} {L : LH} {H : Hp} (hR : HR G φ L H) {x : V2} {v : V} {t : TV} (r : RV G pn φ (Own G φ L) H x v) (e : tyOf L x = some t) (own : ∀ C, t = .own C → OwnC G.K (G.cn C)) (ownE : ∀ C, t = .exn C → ExcC G.K (G.cn C)) : TyY G.K pn H v (t.val G.cn) := by
  cases x with
  | val d =>
    cases d with
    | non => cases e; cases (show v = V.non from r); exact .plain (.base .non)
    | bl b => cases e; cases (show v = V.bl b from r); exact .plain (.base (.bl b))
    | int i => cases e; cases (show v = V.int i from r); exact .plain (.base (.int i))
    | str s => cases e; obtain ⟨rfl, _⟩ := (show _ = V.str _ ∧ _ from r); exact .plain (.base (.str _))
    | tup xs => cases e; obtain ⟨a, vs, rfl, q, _⟩ := r; exact .plain (rdT_tup q)
    | lst xs =>
      cases e
      obtain ⟨a, vs, rfl, ⟨q | ⟨o, q⟩, _⟩, _⟩ := r
      · exact .plain (.base (.lst q))
      · exact .plain (.base (.frz q))
    | dct kvs => cases e; obtain ⟨a, ks, rfl, ⟨q, _⟩, _⟩ := r; exact .plain (.base (.dK q))
    | ins C fs =>
      cases e
      obtain ⟨a, dx, gs, rfl, ⟨q, _⟩, _⟩ := r
      have w := own C rfl
      exact .plain (.base (.ins q w.cl w.ha w.hn w.htk w.hm))
  | ref n =>
    obtain ⟨a, rfl, ha⟩ := r
    simp only [tyOf] at e
    cases hn : L[n]? with
    | none => rw [hn] at e; cases e
    | some o =>
      rw [hn] at e
      have q := hR.at_ n o a hn ha
      cases o with
      | dead => cases e
      | lst xs => cases e; obtain ⟨vs, q, _⟩ := q; exact .plain (.base (.lst q))
      | dct kvs => cases e; obtain ⟨ks, q, _⟩ := q; exact .plain (.base (.dK q))
      | ins C fs =>
        cases e
        obtain ⟨dx, gs, q, _⟩ := q
        have w := own C rfl
        exact .plain (.base (.ins q w.cl w.ha w.hn w.htk w.hm))
  | exn C fs =>
    cases e
    obtain ⟨a, oe, dd, rfl, hp, hz, hf, q⟩ := r
    refine .exn hp hz hf (ownE C rfl) fun d hd => ?_
    rcases q with ⟨d', gs, e1, ⟨e2, _⟩, _⟩ | ⟨_, e1⟩
    · rw [e1] at hd; cases hd; exact ⟨gs, e2⟩
    · rw [e1] at hd; cases hd
/-- a class's name -/
theorem ic_pe (ft : Ft G T P X.mg) {c : IC} {e : Expr} (h : icB T X.env.scope c e = true) : PE X e (tC (c.v G.cn)) ∧ notStar e = true := by
  cases c with
  | ty n =>
    cases e <;> first | exact ff h | skip
    rename_i y q
    have e1 : y = Str.ofString n := of_decide_eq_true (a1 (a1 (a1 (a1 (a1 h)))))
    have e2 : y ∈ T.free := by simpa using a2 (a1 (a1 (a1 (a1 h))))
    have e3 := glB_ok (a2 (a1 (a1 (a1 h))))
    have e4 := nt (a2 (a1 (a1 h)))
    have e5 : y ≠ "__name__" := of_decide_eq_true (a2 (a1 h))
    have e6 := a2 h
    refine ⟨?_, rfl⟩
    have hb : bootBuiltins y = some (.type n) := by
      subst e1
      simp only [List.contains_cons, List.contains_nil, Bool.or_false, Bool.or_eq_true, beq_iff_eq] at e6
      rcases e6 with rfl | rfl | rfl | rfl | rfl | rfl | rfl <;> decide +kernel
    exact pe_bltn (v := .ty n) e3 (ft.free y e2) hb rfl e5 e4
  | own C =>
    cases e <;> first | exact ff h | skip
    rename_i y q
    have e1 : y = T.nm C := of_decide_eq_true (a1 (a1 (a1 h)))
    have e2 : C ∈ T.cls := by simpa using a2 (a1 (a1 h))
    subst e1
    exact ⟨pe_glob (v := .ref (G.cn C)) (glB_ok (a2 (a1 h))) (ft.cls C e2) rfl (nt (a2 h)), rfl⟩
/-- several -/
def tCs (vs : List V) : TA := fun _ H Q => Q vs H
theorem ics_pa (ft : Ft G T P X.mg) : ∀ {cs : List IC} {es : List Expr}, icsB T X.env.scope cs es = true → PA X es (tCs (cs.map (IC.v G.cn)))
  | [], [], _ => pa_nil
  | c :: cs, e :: es, h => by
    obtain ⟨h1, h2⟩ := ic_pe ft (a1 h)
    exact (pa_cons h1 (ics_pa ft (a2 h)) (star_of h2)).imp fun σ H Q q => q
  | [], _ :: _, h => ff h
  | _ :: _, [], h => ff h
theorem bls_isi {c : Cl} {e : IE} {cs : List IC} : Bls (ev c (.isi e cs)) := by
  intro sl L x L' h
  simp only [ev] at h
  cases h1 : ev c e sl L with
  | stuck => rw [h1] at h; cases h
  | exc C fs L1 => rw [h1] at h; cases h
  | ok y L1 =>
    rw [h1] at h
    simp only [R.bind_ok] at h
    split at h
    · cases h; exact ⟨_, rfl⟩
    · cases h
theorem ics_paired (cn : Nat → Addr) : ∀ cs : List IC, Paired ClsV (cs.map (IC.v cn)) (cs.map (IC.val cn))
  | [] => .nil
  | c :: cs => .cons (c.clsv cn) (ics_paired cn cs)
theorem snd_isi {c : Cl} (hK : X.K = G.K) (hpn : ∀ p ∈ pn, p ∈ X.pn) (ft : Ft G T P X.mg) (hk : c.kit = P.kit) {z v : Expr} {e : IE} {cs : List IC} (hx : x = ("isinstance" : Str)) (hf : x ∈ T.free) (hl : X.env.scope.names.lookup x = some .globalImplicit) (hz : notStar z = true)
    (ho : (∃ d, cs = [d] ∧ icB T X.env.scope d v = true) ∨ (∃ vs j r, v = .Tuple vs j r ∧ icsB T X.env.scope cs vs = true)) (hez : PE X z (rdE G pn W (ev c e))) : PE X (.Call (.Name x p) [z, v] [] pos) (rdE G pn W (ev c (.isi e cs))) := by
  have hm := ft.free x hf
  subst hx
  rcases ho with ⟨d, rfl, hd⟩ | ⟨vs, j, r, rfl, hd⟩
  · obtain ⟨h1, h2⟩ := ic_pe ft hd
    have ha : PA X [z, v] (tCons (rdE G pn W (ev c e)) (tCons (tC (d.v G.cn)) tNil)) := pa_cons hez (pa_cons h1 pa_nil (star_of h2)) (star_of hz)
    have hpl : (backTo pos (starEach [v] X.env)).any (·.1) = false := by rw [star_of h2]; rfl
    refine (pe_callB (call_isiY hpn) hl hm PyProof.Rows.boot_isinstance ha (by decide) (by decide) (star_of hz) hpl).imp fun σ H Q ⟨φ, sl, L, hR, hS, hF⟩ => ?_
    simp only [ev] at hF
    refine (bindE hR hS hF).mono fun u H1 ⟨φ1, L1, y, hR1, e1, r1, hS1, hF1⟩ => ?_
    show rIsiY X.K pn [u, d.v G.cn] H1 Q
    cases q : isIC c.kit L1 y [d] with
    | none => rw [q] at hF1; exact hF1.elim
    | some b =>
      rw [q] at hF1
      unfold isIC at q
      rw [if_neg (by simp)] at q
      cases ty : tyOf L1 y with
      | none => rw [ty] at q; cases q
      | some t =>
        rw [ty, hk] at q
        simp only [Option.bind_some, kits] at q
        rw [hK]
        have hq : P.kit t d = some b := by
          cases e : P.kit t d with
          | none => rw [e] at q; cases q
          | some b' => rw [e] at q; cases b' <;> exact q
        exact ⟨u, d.v G.cn, t.val G.cn, d.val G.cn, b, rfl, d.clsv _, tyy_of hR1 r1 ty (fun C hC => ft.own C d b (by rw [← hC]; exact hq)) (fun C hC => ft.ownE C d b (by rw [← hC]; exact hq)), kitOk_eq (ft.kit t d b hq), fin_val hR1 hF1 rfl⟩
  · have ha : PA X [z, .Tuple vs j r] (tCons (rdE G pn W (ev c e)) (tCons (tTup (tCs (cs.map (IC.v G.cn)))) tNil)) := pa_cons hez (pa_cons (pe_tup (ics_pa ft hd)) pa_nil rfl) (star_of hz)
    refine (pe_callB (call_isiTY hpn) hl hm PyProof.Rows.boot_isinstance ha (by decide) (by decide) (star_of hz) rfl).imp fun σ H Q ⟨φ, sl, L, hR, hS, hF⟩ => ?_
    simp only [ev] at hF
    refine (bindE hR hS hF).mono fun u H1 ⟨φ1, L1, y, hR1, e1, r1, hS1, hF1⟩ => ?_
    cases q : isIC c.kit L1 y cs with
    | none => rw [q] at hF1; exact hF1.elim
    | some b =>
      rw [q] at hF1
      unfold isIC at q
      by_cases hc : (cs.isEmpty || decide (100 < cs.length)) = true
      · rw [if_pos hc] at q; cases q
      · rw [if_neg hc] at q
        simp only [Bool.or_eq_true, decide_eq_true_eq, not_or] at hc
        cases ty : tyOf L1 y with
        | none => rw [ty] at q; cases q
        | some t =>
          rw [ty, hk] at q
          simp only [Option.bind_some] at q
          refine ⟨by rw [List.length_map, ← lim_eq]; show _ ≤ 16777216; omega, fun tp htp => ?_⟩
          obtain ⟨h3, e3⟩ := hR1.lay htp (.tup (cs.map (IC.v G.cn)))
          have own : ∀ C, t = .own C → OwnC G.K (G.cn C) := fun C hC => by
            cases cs with
            | nil => exact absurd rfl hc.1
            | cons d ds =>
              simp only [kits] at q
              cases e : P.kit t d with
              | none => rw [e] at q; cases q
              | some b' => exact ft.own C d b' (by rw [← hC]; exact e)
          have ownE : ∀ C, t = .exn C → ExcC G.K (G.cn C) := fun C hC => by
            cases cs with
            | nil => exact absurd rfl hc.1
            | cons d ds =>
              simp only [kits] at q
              cases e : P.kit t d with
              | none => rw [e] at q; cases q
              | some b' => exact ft.ownE C d b' (by rw [← hC]; exact e)
          rw [hK]
          exact ⟨u, tp, _, t.val G.cn, _, b, rfl, upd_same, ics_paired _ _, tyy_of h3 (RV.go e3 r1) ty own ownE, kits_any (fun c b h => ft.kit t c b h) q, fin_val h3 (Fin.ext e3 hF1) rfl⟩
theorem lookF {O : Addr → Prop} {H : Hp} {nm : Nat → Str} (hn : G.nm = nm) : ∀ {fs : List (Nat × D)} {gs : List (Str × V)} {f : Nat} {d : D}, RDf G O H fs gs → (∀ p ∈ fs, nm p.1 = nm f → p.1 = f) → fs.lookup f = some d → ∃ v, gs.lookup (nm f) = some v ∧ RD G O H d v
  | [], _, f, d, h, _, e => by cases e
  | (g, x) :: r, _, f, d, h, inj, e => by
    obtain ⟨v, q, rfl, h1, h2⟩ := h
    rw [List.lookup_cons] at e ⊢
    rw [hn]
    by_cases c : f = g
    · subst c
      simp at e
      subst e
      exact ⟨v, by simp, h1⟩
    · have c2 : (f == g) = false := by simpa using c
      have c3 : (nm f == nm g) = false := by
        rw [beq_eq_false_iff_ne]
        exact fun z => c (inj (g, x) (List.mem_cons_self ..) z.symm).symm
      rw [c2] at e
      rw [c3]
      exact lookF hn h2 (fun p hp => inj p (List.mem_cons_of_mem _ hp)) e
/-- e.f -/
theorem snd_fld (A : Am G T P hot k pn W X) {e : IE} {f : Nat} {y : Expr} {n : Str} (hn : n = T.nm f) (hb : notCall0 y = true) (he : PE X y (rdE G pn W (ev (cl P hot k) e))) : PE X (.Attribute y n p) (rdE G pn W (ev (cl P hot k) (.fld e f))) := by
  subst hn
  refine ⟨fun pins s σ H Q I ⟨φ, sl, L, hR, hS, hF⟩ => ?_⟩
  simp only [ev] at hF
  refine attr_of (base_of hb _) (thn (he.run pins s σ H _ I (bindE hR hS hF)) fun u s1 ⟨x, H1, I1, rx, φ1, L1, y, hR1, e1, r1, hS1, hF1⟩ => ?_)
  cases y with
  | val d => exact hF1.elim
  | ref m => exact hF1.elim
  | exn C fs =>
    simp only at hF1
    by_cases hx : excFld ((cl P hot k).exc C) f = true
    · rw [if_pos hx] at hF1
      obtain ⟨t1, t2, t3⟩ := A.ft.xf C f hx
      cases hl : fs.lookup f with
      | none => rw [hl] at hF1; exact hF1.elim
      | some d =>
        rw [hl] at hF1
        obtain ⟨a, oe, dd, rfl, hp, hz, hf, q⟩ := r1
        rcases q with ⟨d', gs, rfl, ⟨e2, _⟩, rf⟩ | ⟨rfl, _⟩
        · obtain ⟨v, l1, l2⟩ := lookF A.ft.nm rf (fun p _ z => t3 p.1 z) hl
          cases (show u = Value.ref a from rx)
          exact exn_fld I1 A.pns (by rw [A.hK]; exact t1) (by rw [A.hK]; exact t2) hp hz hf e2 l1 (fin_val hR1 hF1 l2)
        · cases hl
    · rw [if_neg hx] at hF1; exact hF1.elim
/-- {} -/
theorem snd_dnew {c : Cl} {own : Bool} : PE X (.Dict [] [] p) (rdE G pn W (ev c (.dnew own))) := by
  refine pe_dnewK.imp fun σ H Q ⟨φ, sl, L, hR, hS, hF⟩ q hq => ?_
  simp only [ev] at hF
  cases own with
  | true =>
    obtain ⟨h1, e1, e2⟩ := hR.alloc hq (.dK []) (.dct []) (by intro z; cases z) ⟨[], upd_same, rfl⟩
    exact hF _ (.ref q) _ h1 e1 ⟨q, rfl, e2⟩
  | false =>
    obtain ⟨h1, e1⟩ := hR.lay hq (.dK [])
    exact hF φ (.ref q) _ h1 e1 ⟨q, [], rfl, ⟨upd_same, fun z => (hR.notOwn hq) z⟩, rfl⟩
end
end PI

set_option maxRecDepth 100000
set_option maxHeartbeats 1000000
namespace PI
open PySem PySem.Spec PyProof.Rows L2

/-- at each turn an item, then the stop -/
def IsIt (G : Gd) (φ0 : List Addr) (L0 : LH) (H0 : Hp) (src : Option Nat) (ds : List D) (J : It) : Prop :=
  ∀ (B : Addr → Prop) (φ : List Addr) (L : LH) (H : Hp), HR (G.at B) φ L H → Stp (Own G φ0 L0) H0 (Own (G.at B) φ L) H → φ0 <+: φ → srcOk src ds L →
    (∀ i d, ds[i]? = some d → J.go i H ∧ ∀ x H', J.yld i H x H' → HR (G.at B) φ L H' ∧ Ext (G.at B) φ L H φ L H' ∧ RD (G.at B) (Own (G.at B) φ L) H' d x) ∧ J.stop ds.length H
section
variable {G : Gd} {T : Tb} {pn : Pn} {W : WX} {X : Cx} {c : Cl} {tg e : Expr}
theorem pi_over {te : TE} (he : PE X e te) : L2.PI X tg e (fun σ H R => te σ H fun x H1 => (∃ a, x = .ref a ∧ (∃ xs, SqL X.K H1 a xs) ∧ R (Itl X.K a) H1) ∨ (∃ a, x = .ref a ∧ (∃ xs, SqT X.K H1 a xs) ∧ R (Itt X.K a) H1) ∨ (∃ z, x = .str z ∧ R (Its z) H1)) := by
  refine ⟨fun pins s σ H R I h => ?_⟩
  refine thn (he.run pins s σ H _ I h) fun v s1 ⟨x, H1, I1, r1, q1⟩ => ?_
  rcases q1 with ⟨a, e, ⟨xs, hq⟩, q⟩ | ⟨a, e, ⟨xs, hq⟩, q⟩ | ⟨z, e, q⟩
  · subst e
    cases r1
    obtain ⟨its, rv, p, hz⟩ := I1.list hq
    exact wpAny_pyIter_list p.isList (pi_one (tk := s1.toks) I1 _ (turn_list a _) ⟨_, Heap.get?_push_size _ rfl, rfl, rfl⟩ q)
  · subst e
    cases r1
    obtain ⟨its, rv, p, hz⟩ := I1.tuple hq
    exact wpAny_pyIter_tuple (show s1.heap.IsTuple a its.toArray from p) (pi_one (tk := s1.toks) I1 _ (turn_tuple a _) ⟨_, Heap.get?_push_size _ rfl, rfl, rfl⟩ q)
  · subst e
    obtain ⟨t, rfl⟩ := r1
    cases ha : z.cps.all (· < 128)
    · exact wpAny_pyIter_wide ha (pi_one (tk := s1.toks) I1 _ (turn_str _ z t "str_iterator" (.inr rfl)) ⟨_, Heap.get?_push_size _ rfl, rfl, rfl⟩ q)
    · exact wpAny_pyIter_ascii ha (pi_one (tk := s1.toks) I1 _ (turn_str _ z t "str_ascii_iterator" (.inl rfl)) ⟨_, Heap.get?_push_size _ rfl, rfl, rfl⟩ q)
/-- the reading of what a for walks -/
def rdI (G : Gd) (pn : Pn) (W : WX) (k : IK) (f : SL → LH → R (List V2)) : TI := fun σ H R => rdA G pn W f σ H fun vs H1 => ∃ (φ : List Addr) (L : LH) (xs : List V2) (ds : List D), HR G φ L H1 ∧ RVs G pn φ (Own G φ L) H1 xs vs ∧ itemsV k xs L = some ds ∧ ∀ J, IsIt G φ L H1 (srcOf k xs) ds J → R J H1
/-- a list of tracked items -/
theorem isIt_list {K : PySem.W.Frag} {a : Addr} {φ0 : List Addr} {L0 : LH} {H0 : Hp} {src : Option Nat} {ds : List D}
    (h : ∀ (B : Addr → Prop) (φ : List Addr) (L : LH) (H : Hp), HR (G.at B) φ L H → Stp (Own G φ0 L0) H0 (Own (G.at B) φ L) H → φ0 <+: φ → srcOk src ds L → ∃ vs, SqL K H a vs ∧ RDs (G.at B) (Own (G.at B) φ L) H ds vs) : IsIt G φ0 L0 H0 src ds (Itl K a) := fun B φ L H hR s p ho => by
  obtain ⟨vs, hq, r⟩ := h B φ L H hR s p ho
  refine ⟨fun i d hi => ?_, vs, hq, by rw [r.len]; exact Nat.le_refl _⟩
  obtain ⟨v, hv, rv⟩ := r.get hi
  refine ⟨⟨vs, v, hq, hv⟩, fun x H' y => ?_⟩
  obtain ⟨rfl, y⟩ := y
  have := y vs hq
  rw [hv] at this
  cases this
  exact ⟨hR, Ext.refl _ _ _ _, rv⟩
theorem isIt_tup {K : PySem.W.Frag} {a : Addr} {φ0 : List Addr} {L0 : LH} {H0 : Hp} {src : Option Nat} {ds : List D}
    (h : ∀ (B : Addr → Prop) (φ : List Addr) (L : LH) (H : Hp), HR (G.at B) φ L H → Stp (Own G φ0 L0) H0 (Own (G.at B) φ L) H → φ0 <+: φ → srcOk src ds L → ∃ vs, SqT K H a vs ∧ RDs (G.at B) (Own (G.at B) φ L) H ds vs) : IsIt G φ0 L0 H0 src ds (Itt K a) := fun B φ L H hR s p ho => by
  obtain ⟨vs, hq, r⟩ := h B φ L H hR s p ho
  refine ⟨fun i d hi => ?_, vs, hq, by rw [r.len]; exact Nat.le_refl _⟩
  obtain ⟨v, hv, rv⟩ := r.get hi
  refine ⟨⟨vs, v, hq, hv⟩, fun x H' y => ?_⟩
  obtain ⟨rfl, y⟩ := y
  have := y vs hq
  rw [hv] at this
  cases this
  exact ⟨hR, Ext.refl _ _ _ _, rv⟩
theorem isIt_str {a : List Nat} {φ0 : List Addr} {L0 : LH} {H0 : Hp} {src : Option Nat} (hc : ∀ c ∈ a, c < 0x110000) : IsIt G φ0 L0 H0 src (a.map fun c => .str [c]) (Its ⟨a.toArray⟩) := fun B φ L H hR s p ho => by
  refine ⟨fun i d hi => ?_, by show a.toArray.size ≤ (a.map _).length; simp⟩
  rw [List.getElem?_map] at hi
  cases h : a[i]? with
  | none => rw [h] at hi; cases hi
  | some k =>
    rw [h] at hi
    cases hi
    have hi' : i < a.length := (List.getElem?_eq_some_iff.mp h).1
    refine ⟨by show i < a.toArray.size; simpa using hi', fun x H' y => ?_⟩
    obtain ⟨rfl, k', hk, rfl⟩ := y
    have e : k' = k := by
      have : a[i]? = some k' := by simpa using hk
      rw [h] at this
      exact (Option.some.inj this).symm
    subst e
    exact ⟨hR, Ext.refl _ _ _ _, rfl, fun z hz => by
      simp at hz
      subst hz
      exact hc _ (List.mem_of_getElem? h), by show 1 ≤ 16777216; omega⟩
theorem isIt_range {a b : Int} {φ0 : List Addr} {L0 : LH} {H0 : Hp} {src : Option Nat} : IsIt G φ0 L0 H0 src (range2 a b) (Itr a (b - a).toNat) := fun B φ L H hR s p ho => by
  refine ⟨fun i d hi => ?_, by show (b - a).toNat ≤ (range2 a b).length; simp [range2]⟩
  unfold range2 at hi
  rw [List.getElem?_map] at hi
  cases h : (List.range (b - a).toNat)[i]? with
  | none => rw [h] at hi; cases hi
  | some k =>
    rw [h] at hi
    cases hi
    have h' := List.getElem?_eq_some_iff.mp h
    obtain ⟨h1, h2⟩ := h'
    rw [List.getElem_range] at h2
    subst h2
    rw [List.length_range] at h1
    refine ⟨h1, fun x H' y => ?_⟩
    obtain ⟨rfl, rfl⟩ := y
    exact ⟨hR, Ext.refl _ _ _ _, rfl⟩
theorem srcOf_at {φ0 φ : List Addr} {L : LH} {H : Hp} {B : Addr → Prop} {n : Nat} {a : Addr} {ds : List D} (hR : HR (G.at B) φ L H) (p : φ0 <+: φ) (ha : φ0[n]? = some a) (ho : srcOk (some n) ds L) : ∃ vs, SqL G.K H a vs ∧ RDs (G.at B) (Own (G.at B) φ L) H ds vs := by
  obtain ⟨vs, q1, q2⟩ := hR.at_ n _ a ho (pre_get p ha)
  exact ⟨vs, SqL.of q1, q2⟩
theorem pi_sndO (hK : X.K = G.K) {i : IE} (he : PE X e (rdE G pn W (ev c i))) : L2.PI X tg e (rdI G pn W .over (evs c [i])) := by
  refine ⟨fun pins s σ H R I h => (pi_over he).run pins s σ H R I ?_⟩
  obtain ⟨φ, sl, L, hR, hS, hF⟩ := h
  simp only [evs] at hF
  refine (bindE hR hS hF).mono fun v H1 ⟨φ1, L1, x, hR1, e1, r1, hS1, hF1⟩ => ?_
  simp only [PI.R.bind_ok] at hF1
  obtain ⟨φ2, L2, xs, ds, hR2, r2, hi, hJ⟩ := hF1 φ1 [v] H1 hR1 (Ext.refl _ _ _ _) ⟨v, [], rfl, r1, rfl⟩
  cases xs with
  | nil => cases hi
  | cons y ys =>
    cases ys with
    | cons _ _ => cases hi
    | nil =>
      obtain ⟨u, e, ry⟩ := RVs.one r2
      cases e
      have seqs : ∀ ds, y.seq? L2 = some ds → (∀ J, IsIt G φ2 L2 H1 (srcOf .over [y]) ds J → R J H1) → (∃ a, v = .ref a ∧ (∃ xs, SqL X.K H1 a xs) ∧ R (Itl X.K a) H1) ∨ (∃ a, v = .ref a ∧ (∃ xs, SqT X.K H1 a xs) ∧ R (Itt X.K a) H1) ∨ (∃ z, v = .str z ∧ R (Its z) H1) := fun ds hq hJ => by
        rw [hK]
        cases y with
        | val d =>
          cases d with
          | tup ys =>
            simp [V2.seq?] at hq
            subst hq
            obtain ⟨a, vs, rfl, t, rs⟩ := ry
            exact .inr (.inl ⟨a, rfl, ⟨vs, t.sq⟩, hJ _ (isIt_tup fun B φ L H _ s p _ => ⟨vs, (s.tup t).sq, RDs.re s _ _ rs⟩)⟩)
          | lst ys =>
            simp [V2.seq?] at hq
            subst hq
            obtain ⟨a, vs, rfl, t, rs⟩ := ry
            exact .inl ⟨a, rfl, ⟨vs, t.sq⟩, hJ _ (isIt_list fun B φ L H _ s p _ => ⟨vs, (s.lst t).sq, RDs.re s _ _ rs⟩)⟩
          | _ => simp [V2.seq?] at hq
        | ref n =>
          have hq' : (V2.ref n).lst? L2 = some ds := hq
          obtain ⟨a, vs, rfl, t, rs⟩ := RV.lst hR2 ry hq'
          obtain ⟨a', e, ha⟩ := ry
          cases e
          exact .inl ⟨a, rfl, ⟨vs, .inl t⟩, hJ _ (isIt_list fun B φ L H hR s p ho => srcOf_at hR p ha ho)⟩
        | exn C fs => simp [V2.seq?] at hq
      cases y with
      | val d =>
        cases d with
        | str a =>
          cases hi
          obtain ⟨rfl, hc, hl⟩ := (show _ = V.str _ ∧ _ from ry)
          exact .inr (.inr ⟨_, rfl, hJ _ (isIt_str hc)⟩)
        | _ => exact seqs ds hi hJ
      | ref n => exact seqs ds hi hJ
      | exn C fs => exact seqs ds hi hJ
theorem evs_len : ∀ {es : List IE} {sl : SL} {L L' : LH} {ys : List V2}, evs c es sl L = .ok ys L' → ys.length = es.length
  | [], sl, L, L', ys, h => by
    simp only [evs] at h
    cases h
    rfl
  | e :: es, sl, L, L', ys, h => by
    simp only [evs] at h
    cases h1 : ev c e sl L with
    | stuck => rw [h1] at h; cases h
    | exc C fs L1 => rw [h1] at h; cases h
    | ok y L1 =>
      rw [h1] at h
      simp only [PI.R.bind_ok] at h
      cases h2 : evs c es sl L1 with
      | stuck => rw [h2] at h; cases h
      | exc C fs L1 => rw [h2] at h; cases h
      | ok zs L2 =>
        rw [h2] at h
        simp only [PI.R.bind_ok] at h
        cases h
        simp [evs_len h2]
theorem RVs.len {φ : List Addr} {O : Addr → Prop} {H : Hp} : ∀ {xs : List V2} {vs : List V}, RVs G pn φ O H xs vs → vs.length = xs.length
  | [], _, h => by cases (show _ = [] from h); rfl
  | x :: xs, _, ⟨v, r, e, _, h2⟩ => by subst e; simp [RVs.len h2]
theorem rdA_len {es : List IE} {σ : L2.St} {H : Hp} {Q : List V → Hp → Prop} (h : rdA G pn W (evs c es) σ H Q) : rdA G pn W (evs c es) σ H fun vs H1 => vs.length = es.length ∧ Q vs H1 := by
  obtain ⟨φ, sl, L, hR, hS, hF⟩ := h
  refine ⟨φ, sl, L, hR, hS, ?_⟩
  cases e : evs c es sl L with
  | stuck => rw [e] at hF; exact hF
  | exc C fs L1 => rw [e] at hF; exact hF
  | ok xs L1 =>
    rw [e] at hF
    exact fun φ' v H' h1 e1 r1 => ⟨by rw [RVs.len r1, evs_len e], hF φ' v H' h1 e1 r1⟩
theorem pi_sndR {p pos : Pos} {args : List Expr} {is : List IE} (hl : Gl X "range") (hm : X.mg "range" = none) (hn : args.length = 1 ∨ args.length = 2) (hlen : is.length = args.length) (hst : ∀ pos, (backTo pos (starEach args X.env)).any (·.1) = false) (ha : PA X args (rdA G pn W (evs c is))) :
    L2.PI X tg (.Call (.Name "range" p) args [] pos) (rdI G pn W .range (evs c is)) := by
  have strip : ∀ {a : Expr} {r : List Expr}, (∀ pos, (backTo pos (starEach (a :: r) X.env)).any (·.1) = false) → starEach (a :: r) X.env = (false, eval a X.env) :: starEach r X.env ∧ ∀ pos, (backTo pos (starEach r X.env)).any (·.1) = false := fun {a r} h => by
    have hs : starEach (a :: r) X.env = (false, eval a X.env) :: starEach r X.env := by
      cases a <;> first | rfl | exact absurd (h pos) (by show (true || _) ≠ false; simp)
    exact ⟨hs, fun pos => by have := h pos; rw [hs] at this; exact this⟩
  have rd : ∀ {σ H R}, rdI G pn W .range (evs c is) σ H R → rdA G pn W (evs c is) σ H fun vs H1 => vs.length = args.length ∧ ((∃ j : Int, vs = [.int j] ∧ -(2 ^ 62) ≤ j ∧ j < 2 ^ 62 ∧ R (Itr 0 (j - 0).toNat) H1) ∨ ∃ i j : Int, vs = [.int i, .int j] ∧ (-(2 ^ 62) ≤ i ∧ i < 2 ^ 62 ∧ -(2 ^ 62) ≤ j ∧ j < 2 ^ 62) ∧ R (Itr i (j - i).toNat) H1) := fun {σ H R} h => by
    refine (rdA_len h).mono fun vs H1 ⟨hl, φ, L, xs, ds, hR, r, hi, hJ⟩ => ⟨by rw [hl, hlen], ?_⟩
    match xs, r, hi, hJ with
    | [], _, hi, _ => cases hi
    | [.ref _], _, hi, _ => cases hi
    | [.exn _ _], _, hi, _ => cases hi
    | [.val d], r, hi, hJ =>
      cases d with
      | int j =>
        obtain ⟨v, rfl, rv⟩ := RVs.one r
        cases (show v = V.int j from rv)
        simp only [itemsV] at hi
        split at hi
        · rename_i hb
          cases hi
          simp only [Bool.and_eq_true, decide_eq_true_eq] at hb
          exact .inl ⟨j, rfl, hb.1, hb.2, hJ _ isIt_range⟩
        · cases hi
      | _ => cases hi
    | x :: y :: z :: w, _, hi, _ => cases hi
    | [x, y], r, hi, hJ =>
      simp only [itemsV] at hi
      split at hi
      · rename_i i j
        split at hi
        · rename_i hb
          cases hi
          simp only [Bool.and_eq_true, decide_eq_true_eq] at hb
          obtain ⟨v, q, rfl, rv, u, q', rfl, ru, rfl⟩ := r
          cases (show v = V.int i from rv)
          cases (show u = V.int j from ru)
          exact .inr ⟨i, j, rfl, ⟨hb.1.1.1, hb.1.1.2, hb.1.2, hb.2⟩, hJ _ isIt_range⟩
        · cases hi
      · cases hi
  match args, hn with
  | [a], _ =>
    obtain ⟨h1, h2⟩ := strip hst
    refine ⟨fun pins s σ H R I h => (pi_range1 (tg := tg) hl hm ha h1).run pins s σ H R I ?_⟩
    refine (rd h).mono fun vs H1 ⟨hl, q⟩ => ?_
    rcases q with ⟨j, rfl, q1, q2, q3⟩ | ⟨i, j, rfl, _⟩
    · exact ⟨j, rfl, q1, q2, by simpa using q3⟩
    · cases hl
  | [a, b], _ =>
    obtain ⟨h1, h2⟩ := strip hst
    obtain ⟨h3, h4⟩ := strip h2
    refine ⟨fun pins s σ H R I h => (pi_range2 (tg := tg) hl hm ha (by rw [h1, h3]; rfl) h3).run pins s σ H R I ?_⟩
    refine (rd h).mono fun vs H1 ⟨hl, q⟩ => ?_
    rcases q with ⟨j, rfl, _⟩ | ⟨i, j, rfl, q1, q2⟩
    · cases hl
    · exact ⟨i, j, rfl, q1, q2⟩
def gNames : List Nat → TGs
  | [] => gNil
  | i :: is => gCons (gName i) (gNames is)
def gT (K : PySem.W.Frag) : ITg → TG
  | .nm i => gName i
  | .tp is => gTup K is.length (gNames is)
theorem nm_ok {cb : Bool} {sc : Scope} {N : List Str} {i : Nat} {y : Str} {q : Pos} (h : nmB cb sc N i (.Name y q) = true) : N[i]? = some y ∧ (sc.names.lookup y = some .local ∨ (cb = true ∧ sc.names.lookup y = some .cell)) := by
  refine ⟨of_decide_eq_true (a1 h), ?_⟩
  have h2 := a2 h
  rw [Bool.or_eq_true, Bool.and_eq_true] at h2
  exact h2.imp locB_ok fun z => ⟨z.1, celB_ok z.2⟩
theorem pg_nm {cb : Bool} (hN : X.N.Nodup) (hf : cb = true → ∀ y, X.fn y = true) {i : Nat} {e : Expr} (h : nmB cb X.env.scope X.N i e = true) : PG X e (gName i) := by
  cases e <;> first | exact ff h | skip
  obtain ⟨e1, e2⟩ := nm_ok h
  rcases e2 with e2 | ⟨e2, e3⟩
  · exact pg_name hN e1 (.inl e2) (.inr e2)
  · exact pg_name hN e1 (.inr e3) (.inl (hf e2 _))
theorem pgs_names {cb : Bool} (hN : X.N.Nodup) (hf : cb = true → ∀ y, X.fn y = true) : ∀ {is : List Nat} {es : List Expr}, nmsB cb X.env.scope X.N is es = true → PGs X es (gNames is) ∧ (assignEach es X.env).length = is.length ∧ (assignEach es X.env).findIdx? (·.1) = none
  | [], [], _ => ⟨pgs_nil, rfl, rfl⟩
  | [], _ :: _, h => ff h
  | _ :: _, [], h => ff h
  | i :: is, e :: es, h => by
    obtain ⟨h1, h2, h3⟩ := pgs_names hN hf (a2 h)
    have hn := a1 h
    have hg := pg_nm hN hf hn
    cases e <;> first | exact ff hn | skip
    refine ⟨pgs_cons hg h1, ?_, ?_⟩
    · show ((assignEach es X.env).length + 1) = _
      rw [h2]; rfl
    · show ((false, _) :: assignEach es X.env).findIdx? (·.1) = none
      rw [List.findIdx?_cons]
      simp [h3]
theorem pg_tg {cb : Bool} (hN : X.N.Nodup) (hf : cb = true → ∀ y, X.fn y = true) {t : ITg} (hc : X.calm = true ∨ ∃ i, t = .nm i) {e : Expr} (h : tgB cb X.env.scope X.N t e = true) : PG X e (gT X.K t) := by
  cases t with
  | nm i => exact pg_nm hN hf h
  | tp is =>
    cases e <;> first | exact ff h | skip
    obtain ⟨h1, h2, h3⟩ := pgs_names hN hf h
    rcases hc with hc | ⟨i, hc⟩
    · exact pg_tup hc h1 h2 h3
    · cases hc
/-- slots but for some -/
def RSlP (G : Gd) (pn : Pn) (φ : List Addr) (O : Addr → Prop) (H : Hp) (bad : Nat → Prop) (sl : SL) (σ : L2.St) : Prop :=
  sl.length = σ.length ∧ ∀ (i : Nat) (x : V2), ¬ bad i → sl[i]? = some (some x) → ∃ v, σ[i]? = some (some v) ∧ RV G pn φ O H x v
theorem RSlP.set {φ : List Addr} {O : Addr → Prop} {H : Hp} {bad bad' : Nat → Prop} {sl : SL} {σ : L2.St} (h : RSlP G pn φ O H bad sl σ) (i : Nat) {x : V2} {v : V} (r : RV G pn φ O H x v) (hb : ∀ j, bad j → bad' j ∨ j = i) : RSlP G pn φ O H bad' (sl.set i (some x)) (σ.set i (some v)) := by
  refine ⟨by simp [h.1], fun j y nb q => ?_⟩
  by_cases hj : i = j
  · subst hj
    by_cases hl : i < sl.length
    · rw [List.getElem?_set_self hl] at q
      cases q
      exact ⟨v, List.getElem?_set_self (by rw [← h.1]; exact hl), r⟩
    · rw [List.getElem?_eq_none (by simpa using hl)] at q; cases q
  · rw [List.getElem?_set_ne hj] at q
    obtain ⟨u, a, b⟩ := h.2 j y (fun z => by
      rcases hb j z with w | w
      · exact nb w
      · exact hj w.symm) q
    exact ⟨u, by rw [List.getElem?_set_ne hj]; exact a, b⟩
theorem store_names {φ : List Addr} {O : Addr → Prop} {H : Hp} : ∀ {is : List Nat} {xs : List D} {vs : List V} {sl : SL} {σ : L2.St}, xs.length = is.length → RDs G O H xs vs → RSlP G pn φ O H (· ∈ is) sl σ → ∀ {Q : L2.St → Hp → Prop},
    (∀ σ', RSl G pn φ O H ((is.zip xs).foldl (fun s p => s.set p.1 (some (.val p.2))) sl) σ' → σ'.length = σ.length → (∀ j, j ∉ is → σ'[j]? = σ[j]?) → Q σ' H) → gNames is vs σ H Q
  | [], [], vs, sl, σ, _, r, h, Q, hq => ⟨r, hq σ ⟨h.1, fun i x => h.2 i x (by simp)⟩ rfl fun _ _ => rfl⟩
  | [], _ :: _, _, _, _, hl, _, _, _, _ => by cases hl
  | _ :: _, [], _, _, _, hl, _, _, _, _ => by cases hl
  | i :: is, x :: xs, vs, sl, σ, hl, r, h, Q, hq => by
    obtain ⟨v, q, rfl, h1, h2⟩ := r
    refine ⟨v, q, rfl, ?_⟩
    have h3 : RSlP G pn φ O H (· ∈ is) (sl.set i (some (.val x))) (σ.set i (some v)) := h.set i (x := .val x) h1 fun j hj => by
      rcases List.mem_cons.mp hj with e | e
      · exact .inr e
      · exact .inl e
    refine store_names (sl := sl.set i (some (.val x))) (by simpa using hl) h2 h3 fun σ' a b d => hq σ' a (by rw [b, List.length_set]) fun j hj => ?_
    simp only [List.mem_cons, not_or] at hj
    rw [d j hj.2, List.getElem?_set_ne (Ne.symm hj.1)]
theorem store_rel (hK : X.K = G.K) {t : ITg} {φ : List Addr} {L : LH} {H : Hp} {d : D} {v : V} {sl sl' : SL} {σ : L2.St} (r : RD G (Own G φ L) H d v) (h : RSlP G pn φ (Own G φ L) H (· ∈ t.slots) sl σ) (e : store t d sl = some sl') {Q : L2.St → Hp → Prop}
    (hq : ∀ σ', RSl G pn φ (Own G φ L) H sl' σ' → σ'.length = σ.length → (∀ j, j ∉ t.slots → σ'[j]? = σ[j]?) → Q σ' H) : gT X.K t v σ H Q := by
  cases t with
  | nm i =>
    cases e
    have h3 : RSlP G pn φ (Own G φ L) H (fun _ => False) (sl.set i (some (.val d))) (σ.set i (some v)) := h.set i (x := .val d) r fun j hj => .inr (by simpa [ITg.slots] using hj)
    exact hq _ ⟨h3.1, fun j x => h3.2 j x (fun z => z)⟩ (by simp) fun j hj => by
      rw [List.getElem?_set_ne]
      simpa [ITg.slots, eq_comm] using hj
  | tp is =>
    cases d with
    | tup xs =>
      simp only [store] at e
      split at e
      · rename_i hl
        cases e
        obtain ⟨a, vs, rfl, t, rs⟩ := r
        exact ⟨a, vs, rfl, by rw [hK]; exact t.sq, by rw [← rs.len]; exact hl, store_names hl rs h hq⟩
      · cases e
    | _ => cases e
theorem wipe_get {σ : L2.St} {j : Nat} : ∀ {vs : List Nat}, j ∈ vs → j < σ.length → (wipe σ vs)[j]? = some none
  | [], h, _ => by cases h
  | v :: vs, h, hl => by
    unfold wipe
    by_cases e : v = j
    · subst e
      rw [List.getElem?_set_self (by rw [wipe_length]; exact hl)]
    · rw [List.getElem?_set_ne e]
      exact wipe_get ((List.mem_cons.mp h).resolve_left (Ne.symm e)) hl
theorem wipe_eq {σ σ' : L2.St} {vs : List Nat} (hl : σ'.length = σ.length) (h : ∀ j, j ∉ vs → σ'[j]? = (wipe σ vs)[j]?) : wipe σ' vs = wipe σ vs := by
  apply List.ext_getElem?
  intro j
  by_cases hj : j ∈ vs
  · by_cases hb : j < σ.length
    · rw [wipe_get hj hb, wipe_get hj (by rw [hl]; exact hb)]
    · rw [List.getElem?_eq_none (by rw [wipe_length]; omega), List.getElem?_eq_none (by rw [wipe_length]; omega)]
  · rw [wipe_out hj, h j hj]
theorem RSl.wipe {φ : List Addr} {O : Addr → Prop} {H : Hp} {sl : SL} {σ : L2.St} {vs : List Nat} (h : RSl G pn φ O H sl σ) : RSlP G pn φ O H (· ∈ vs) sl (wipe σ vs) :=
  ⟨by rw [wipe_length]; exact h.1, fun i x nb q => let ⟨v, a, b⟩ := h.2 i x q; ⟨v, by rw [wipe_out nb]; exact a, b⟩⟩
end
end PI

set_option maxRecDepth 100000
set_option maxHeartbeats 1000000
namespace PI
open PySem PySem.Spec PyProof.Rows L2
/-- one more place is held -/
abbrev Gd.plus (G : Gd) (D : Addr) : Gd := G.at fun a => G.B a ∨ a = D
section
variable {G : Gd} {φ φ' : List Addr} {L L' : LH} {H H' : Hp} {D : Addr}
theorem own_plus {a : Addr} : Own (G.plus D) φ L a ↔ Own G φ L a ∨ a = D :=
  ⟨fun z => z.elim (fun z => .inl (.inl z)) fun z => z.elim (fun z => .inl (.inr z)) .inr, fun z => z.elim (fun z => z.elim .inl fun z => .inr (.inl z)) fun z => .inr (.inr z)⟩
theorem plus_stp (n : H D = none) (o : HO) : Stp (Own G φ L) H (Own (G.plus D) φ L) (upd H D o) :=
  ⟨fun a u e _ => by rw [upd_ne (ne_of_none e n)]; exact e, fun a z => (own_plus.mp z).elim .inl fun z => .inr (by rw [z]; exact n)⟩
theorem HR.hold (h : HR G φ L H) (n : H D = none) (o : HO) : HR (G.plus D) φ L (upd H D o) := by
  have s := plus_stp (G := G) (φ := φ) (L := L) n o
  refine ⟨h.len, fun i u a e1 e2 => ?_, h.inj, fun a z => ?_⟩
  · by_cases hd : u = .dead
    · subst hd; trivial
    · have ha : a ≠ D := fun z => by
        obtain ⟨w, hw⟩ := h.own (.inl ⟨i, u, e1, hd, e2⟩)
        rw [z, n] at hw; cases hw
      exact RO.at s (upd_ne ha) (h.at_ i u a e1 e2)
  · rcases z with z | z
    · have hn : a ≠ D := fun e => h.notB n (e ▸ z)
      exact ⟨by rw [upd_ne hn]; exact (h.res a z).1, (h.res a z).2⟩
    · subst z
      exact ⟨⟨o, upd_same⟩, fun q => h.notOwn n (.inl q)⟩
/-- what is held is written -/
theorem HR.write (h : HR G φ L H) (hb : G.B D) (o : HO) : HR G φ L (upd H D o) ∧ Stp (Own G φ L) H (Own G φ L) (upd H D o) := by
  have s : Stp (Own G φ L) H (Own G φ L) (upd H D o) := ⟨fun a u e n => by rw [upd_ne (fun z => n (.inr (by rw [z]; exact hb)))]; exact e, fun _ z => .inl z⟩
  refine ⟨⟨h.len, fun i u a e1 e2 => ?_, h.inj, fun a z => ?_⟩, s⟩
  · by_cases hd : u = .dead
    · subst hd; trivial
    · have ha : a ≠ D := fun z => (h.res D hb).2 ⟨i, u, e1, hd, z ▸ e2⟩
      exact RO.go' s (upd_ne ha) (h.at_ i u a e1 e2)
  · by_cases hn : a = D
    · subst hn
      exact ⟨⟨o, upd_same⟩, (h.res a z).2⟩
    · exact ⟨by rw [upd_ne hn]; exact (h.res a z).1, (h.res a z).2⟩
/-- let go: nobody's -/
theorem HR.free (h : HR (G.plus D) φ L H) (nb : ¬ G.B D) : HR G φ L H ∧ Stp (Own (G.plus D) φ L) H (Own G φ L) H ∧ ¬ Own G φ L D := by
  have s : Stp (Own (G.plus D) φ L) H (Own G φ L) H := ⟨fun _ _ e _ => e, fun a z => .inl (own_plus.mpr (.inl z))⟩
  refine ⟨⟨h.len, fun i u a e1 e2 => RO.at (G := G.plus D) (B := G.B) s rfl (h.at_ i u a e1 e2), h.inj, fun a z => h.res a (.inl z)⟩, s, fun z => ?_⟩
  rcases z with z | z
  · exact (h.res D (.inr rfl)).2 z
  · exact nb z
/-- let go: as a new list -/
theorem HR.give' (h : HR (G.plus D) φ L H) (nb : ¬ G.B D) {xs : List PI.D} {vs : List V} (hD : H D = some (.lst vs)) (r : RDs (G.plus D) (Own (G.plus D) φ L) H xs vs) : HR G (φ ++ [D]) (L ++ [.lst xs]) H ∧ Stp (Own (G.plus D) φ L) H (Own G (φ ++ [D]) (L ++ [.lst xs])) H := by
  have s : Stp (Own (G.plus D) φ L) H (Own G (φ ++ [D]) (L ++ [.lst xs])) H := ⟨fun _ _ e _ => e, fun a z => .inl (own_plus.mpr (by
    rcases z with z | z
    · rcases ownL_app h.len z with z | z
      · exact .inl (.inl z)
      · exact .inr z
    · exact .inl (.inr z)))⟩
  have ndD : ¬ OwnL φ L D := (h.res D (.inr rfl)).2
  have hlen : φ.length = L.length := h.len
  have old : ∀ {i : Nat} {u : LO} {a : Addr}, (L ++ [.lst xs])[i]? = some u → (φ ++ [D])[i]? = some a → (i < L.length ∧ L[i]? = some u ∧ φ[i]? = some a) ∨ (i = L.length ∧ u = .lst xs ∧ a = D) := fun {i u a} e1 e3 => by
    by_cases hi : i < L.length
    · rw [List.getElem?_append_left hi] at e1
      rw [List.getElem?_append_left (by rw [hlen]; exact hi)] at e3
      exact .inl ⟨hi, e1, e3⟩
    · have hi' : i = L.length := by
        have := (List.getElem?_eq_some_iff.mp e1).1
        simp at this
        omega
      subst hi'
      rw [List.getElem?_append_right (Nat.le_refl _)] at e1
      rw [List.getElem?_append_right (by omega)] at e3
      simp at e1
      simp [hlen] at e3
      exact .inr ⟨rfl, e1.symm, e3.symm⟩
  refine ⟨⟨by simp [hlen], fun i u a e1 e2 => ?_, fun i j u w a e1 d1 e2 d2 e3 e4 => ?_, fun a z => ⟨(h.res a (.inl z)).1, fun q => ?_⟩⟩, s⟩
  · rcases old e1 e2 with ⟨_, q1, q2⟩ | ⟨_, rfl, rfl⟩
    · exact RO.at (G := G.plus D) (B := G.B) s rfl (h.at_ i u a q1 q2)
    · exact ⟨vs, hD, RDs.re (G := G.plus _) (B := G.B) s _ _ r⟩
  · rcases old e1 e3 with ⟨p0, p1, p2⟩ | ⟨p1, rfl, p2⟩
    · rcases old e2 e4 with ⟨q0, q1, q2⟩ | ⟨q1, rfl, q2⟩
      · exact h.inj i j u w a p1 d1 q1 d2 p2 q2
      · exact absurd ⟨i, u, p1, d1, q2 ▸ p2⟩ ndD
    · rcases old e2 e4 with ⟨q0, q1, q2⟩ | ⟨q1, _, q2⟩
      · exact absurd ⟨j, w, q1, d2, p2 ▸ q2⟩ ndD
      · omega
  · rcases ownL_app hlen q with q | q
    · exact (h.res a (.inl z)).2 q
    · exact nb (q ▸ z)
end
end PI

set_option maxRecDepth 100000
set_option maxHeartbeats 1000000
namespace PI
open PySem PySem.Spec PyProof.Rows L2
abbrev noWX : WX := fun _ _ _ _ => False
noncomputable def testG (c : Cl) (ts : List IE) : SL → LH → R Bool := fun sl L => (evs c ts sl L).bind fun bs L2 => R.opt (testOf bs L2) L2
noncomputable def turnF (c : Cl) (ts : List IE) (elt : IE) : SL → LH → R (Option D) := fun sl' L' => (evs c ts sl' L').bind fun bs L2 => (match testOf bs L2 with
        | some true => (ev c elt sl' L2).bind fun x L3 => (match x.dat? with
          | some d => .ok (some d) L3
          | none => .stuck)
        | some false => .ok none L2
        | none => .stuck)
theorem turnF_eq (c : Cl) (ts : List IE) (elt : IE) (sl : SL) (L : LH) : turnF c ts elt sl L = (testG c ts sl L).bind fun b L2 => if b = true then (ev c elt sl L2).bind fun x L3 => (match x.dat? with
          | some d => .ok (some d) L3
          | none => .stuck) else .ok none L2 := by
  unfold turnF testG
  cases evs c ts sl L with
  | stuck => rfl
  | exc C fs L1 => rfl
  | ok bs L1 =>
    simp only [R.bind_ok]
    cases testOf bs L1 with
    | none => rfl
    | some b => cases b <;> rfl
theorem drop_at {α : Type} {ds : List α} {i : Nat} (h : i < ds.length) : ∃ d, ds[i]? = some d ∧ ds.drop i = d :: ds.drop (i + 1) := ⟨ds[i], by simp [h], by rw [List.drop_eq_getElem_cons h]⟩
theorem slots_own (tg : ITg) (N : List Str) : (ownOf tg N).map (·.2) = tg.slots := by
  unfold ownOf
  rw [List.map_map]
  exact List.map_id' _
theorem dat_rv {G : Gd} {pn : Pn} {φ : List Addr} {O : Addr → Prop} {H : Hp} {x : V2} {v : V} {d : D} (e : x.dat? = some d) (r : RV G pn φ O H x v) : RD G O H d v := by
  cases x with
  | val y => cases e; exact r
  | ref n => cases e
  | exn C fs => cases e
section
variable {G : Gd} {W : WX} {X : Cx} {c : Cl} {σ : L2.St}
theorem comp_rd (hK : X.K = G.K) {own : Bool} {elt : IE} {tg : ITg} {ik : IK} {it ts : List IE} (hhot : c.hot = false) {H : Hp} {Q : VK} (hq : rdE G [] W (ev c (.comp own elt tg ik it ts)) σ H Q) :
    tLc (rdI G [] W ik (evs c it)) (gT X.K tg) (fun σ H Q => ∃ B, rdT (G.at B) [] noWX (testG c ts) σ H Q) (fun σ H Q => ∃ B, rdE (G.at B) [] noWX (ev c elt) σ H Q) ((ownOf tg X.N).map (·.2)) σ H Q := by
  obtain ⟨φ, sl, L, hR, hS, hF⟩ := hq
  simp only [ev, hhot, Bool.false_eq_true, if_false] at hF
  rw [slots_own]
  unfold tLc
  refine (bindA hR hS hF).mono fun vs H1 ⟨φ1, L1, xs, hR1, e1, r1, hS1, hF1⟩ => ?_
  cases hit : itemsV ik xs L1 with
  | none => rw [hit] at hF1; exact hF1.elim
  | some ds =>
    rw [hit] at hF1
    refine ⟨φ1, L1, xs, ds, hR1, r1, hit, fun J hJ D hD => ?_⟩
    have hF1 : Fin G (RelV2 G []) (WEx G W σ) φ1 L1 H1 Q ((compGo (turnF c ts elt) tg sl (srcOf ik xs) ds L1.length ds [] L1).bind fun ys L2 => newL own ys L2) := hF1
    have nb : ¬ G.B D := hR1.notB hD
    let Pv : Nat → Hp → Prop := fun j H => ∃ (φ : List Addr) (L : LH) (ys : List PI.D) (vs : List V), HR (G.plus D) φ L H ∧ Stp (Own G φ1 L1) H1 (Own (G.plus D) φ L) H ∧ φ1 <+: φ ∧ (∀ a, G.B a → H a = H1 a) ∧ H D = some (.lst vs) ∧ RDs (G.plus D) (Own (G.plus D) φ L) H ys vs ∧
      Fin G (RelV2 G []) (WEx G W σ) φ1 L1 H1 Q ((compGo (turnF c ts elt) tg sl (srcOf ik xs) ds L1.length (ds.drop j) ys L).bind fun ys L2 => newL own ys L2)
    refine ⟨fun j m H => m = ds.length - j ∧ j ≤ ds.length ∧ Pv j H, ⟨ds.length, by simp, Nat.zero_le _, φ1, L1, [], [], hR1.hold hD _, plus_stp hD _, List.prefix_refl _, fun a z => upd_ne fun q => nb (by rw [← q]; exact z), upd_same, rfl, hF1⟩, ?_⟩
    rintro j m H2 ⟨rfl, hj, φ2, L2, ys, vs2, g1, g2, g3, g4, g5, g6, g7⟩
    by_cases hlt : j < ds.length
    · right
      obtain ⟨d, hd, hdrop⟩ := drop_at hlt
      rw [hdrop] at g7
      simp only [compGo] at g7
      by_cases hsrc : srcOk (srcOf ik xs) ds L2
      · rw [if_pos hsrc] at g7
        obtain ⟨hgo, hyld⟩ := (hJ _ φ2 L2 H2 g1 g2 g3 hsrc).1 j d hd
        refine ⟨hgo, Pv (j + 1), fun H' p' => ⟨ds.length - (j + 1), by omega, rfl, hlt, p'⟩, fun x H' y => ?_⟩
        obtain ⟨y1, y2, y3⟩ := hyld x H' y
        cases hst : store tg d sl with
        | none => rw [hst] at g7; exact g7.elim
        | some sl' =>
          rw [hst] at g7
          simp only [turnF_eq] at g7
          have hS2 : RSl (G.plus D) [] φ2 (Own (G.plus D) φ2 L2) H' sl σ := RSl.go y2 (RSl.at (B := fun a => G.B a ∨ a = D) g2 g3 hS1)
          refine store_rel (G := G.plus D) (pn := []) hK y3 hS2.wipe hst fun σ' hs1 hs2 hs3 => ⟨wipe_eq (by rw [hs2, wipe_length]) hs3, _, φ2, sl', L2, y1, hs1, ?_⟩
          cases hT : testG c ts sl' L2 with
          | stuck => rw [hT] at g7; exact g7.elim
          | exc C fs L3 => rw [hT] at g7; exact g7.elim
          | ok b L3 =>
            rw [hT] at g7
            intro φ3 v H3 f1 f2 f3
            subst f3
            have s3 := (g2.trans y2.stp).trans f2.stp
            have p3 := (g3.trans y2.pre).trans f2.pre
            have h3 : ∀ a, G.B a → H3 a = H1 a := fun a z => ((f2.held a (.inl z)).trans (y2.held a (.inl z))).trans (g4 a z)
            have d3 : H3 D = some (.lst vs2) := ((f2.held D (.inr rfl)).trans (y2.held D (.inr rfl))).trans g5
            have r3 : RDs (G.plus D) (Own (G.plus D) φ3 L3) H3 ys vs2 := RDs.go (y2.stp.trans f2.stp) _ _ g6
            cases b with
            | false =>
              simp only [R.bind_ok, Bool.false_eq_true, if_false] at g7
              simp only [Bool.false_eq_true, if_false]
              by_cases hlen : L3.length = L1.length
              · rw [if_pos hlen] at g7
                exact ⟨φ3, L3, ys, vs2, f1, s3, p3, h3, d3, r3, g7⟩
              · rw [if_neg hlen] at g7; exact g7.elim
            | true =>
              simp only [R.bind_ok, if_true] at g7
              simp only [if_true]
              refine ⟨_, φ3, sl', L3, f1, RSl.go f2 hs1, ?_⟩
              cases hE : ev c elt sl' L3 with
              | stuck => rw [hE] at g7; exact g7.elim
              | exc C fs L4 => rw [hE] at g7; exact g7.elim
              | ok z L4 =>
                rw [hE] at g7
                simp only [R.bind_ok] at g7
                intro φ4 w H4 k1 k2 k3
                cases hz : z.dat? with
                | none => rw [hz] at g7; exact g7.elim
                | some dd =>
                  rw [hz] at g7
                  simp only at g7
                  by_cases hlen : (decide (L4.length = L1.length) && decide (ys.length < lim)) = true
                  · rw [if_pos hlen] at g7
                    simp only [Bool.and_eq_true, decide_eq_true_eq] at hlen
                    have d4 : H4 D = some (.lst vs2) := (k2.held D (.inr rfl)).trans d3
                    have r4 := RDs.go k2.stp _ _ r3
                    obtain ⟨w1, w2⟩ := k1.write (D := D) (.inr rfl) (.lst (vs2 ++ [w]))
                    refine ⟨vs2, d4, by rw [← r4.len, ← lim_eq]; exact hlen.2, φ4, L4, ys ++ [dd], vs2 ++ [w], w1, (s3.trans k2.stp).trans w2, p3.trans k2.pre, fun a z => ?_, upd_same, RDs.go w2 _ _ (r4.app (RDs.one (dat_rv hz k3))), g7⟩
                    rw [upd_ne fun q => nb (by rw [← q]; exact z)]
                    exact (k2.held a (.inl z)).trans (h3 a z)
                  · rw [if_neg hlen] at g7; exact g7.elim
      · rw [if_neg hsrc] at g7; exact g7.elim
    · left
      have ej : j = ds.length := by omega
      subst ej
      rw [List.drop_length] at g7
      simp only [compGo] at g7
      by_cases hsrc : srcOk (srcOf ik xs) ds L2
      · rw [if_pos hsrc] at g7
        simp only [R.bind_ok] at g7
        refine ⟨(hJ _ φ2 L2 H2 g1 g2 g3 hsrc).2, ?_⟩
        unfold newL at g7
        by_cases hl : ys.length ≤ lim
        · rw [if_pos hl] at g7
          cases own with
          | false =>
            obtain ⟨q1, q2, q3⟩ := g1.free nb
            exact g7 φ2 (.ref D) H2 q1 ⟨g2.trans q2, g3, g4⟩ ⟨D, vs2, rfl, ⟨.inl g5, q3⟩, RDs.re (G := G.plus D) (B := G.B) q2 _ _ g6⟩
          | true =>
            obtain ⟨q1, q2⟩ := g1.give' nb g5 g6
            exact g7 _ (.ref D) H2 q1 ⟨g2.trans q2, g3.trans (List.prefix_append _ _), g4⟩ ⟨D, rfl, by
              have := g1.len
              rw [List.getElem?_append_right (by omega)]
              simp [this]⟩
        · rw [if_neg hl] at g7; exact g7.elim
      · rw [if_neg hsrc] at g7; exact g7.elim
theorem snd_comp (hK : X.K = G.K) (hcalm : X.calm = true) (hN : X.N.Nodup) {own : Bool} {elt : IE} {tg : ITg} {ik : IK} {it ts : List IE} {e t i : Expr} {ifs : List Expr} {scope : Scope} {p : Pos} (hhot : c.hot = false)
    (hi : L2.PI X t i (rdI G [] W ik (evs c it))) (ok : L2.blkC X.N X.env.scope scope (ownOf tg X.N) = true) (htg : tgB false (relS scope X.env.scope) X.N tg t = true) (hset : notSet i = true)
    (ht : ∀ (B : Addr → Prop) (s : Shared) (H : Hp) (C : Addr) (cl : List (Str × Addr)) (fp : List Addr), PTs (X.blk s H scope (compEnvC scope cl C X.env) fp) ifs (rdT (G.at B) [] noWX (testG c ts)))
    (he : ∀ (B : Addr → Prop) (s : Shared) (H : Hp) (C : Addr) (cl : List (Str × Addr)) (fp : List Addr), PE (X.blk s H scope (compEnvC scope cl C X.env) fp) e (rdE (G.at B) [] noWX (ev c elt))) :
    PE X (.ListComp e [⟨t, i, ifs, 0⟩] scope p) (rdE G [] W (ev c (.comp own elt tg ik it ts))) :=
  (pe_lc (g := gT X.K tg) (tt := fun σ H Q => ∃ B, rdT (G.at B) [] noWX (testG c ts) σ H Q) (te := fun σ H Q => ∃ B, rdE (G.at B) [] noWX (ev c elt) σ H Q) hcalm hN hi (L2.blkOk_by ok)
    (fun s H C cl fp => pg_tg (X := X.blk s H scope (compEnvC scope cl C X.env) fp) hN (fun z => by cases z) (.inl hcalm) htg)
    (fun s H C cl fp => ⟨fun pins s' σ' H' Q I ⟨B, q⟩ => (ht B s H C cl fp).run pins s' σ' H' Q I q⟩)
    (fun s H C cl fp => ⟨fun pins s' σ' H' Q I ⟨B, q⟩ => (he B s H C cl fp).run pins s' σ' H' Q I q⟩)
    (by intro x; cases i <;> first | exact ff hset | rfl)).imp fun σ H Q q => comp_rd hK hhot q
/-- name = [..] -/
theorem set_comp (hK : X.K = G.K) (hcalm : X.calm = true) (hN : X.N.Nodup) {own : Bool} {elt : IE} {tg : ITg} {ik : IK} {it ts : List IE} {e t i : Expr} {ifs : List Expr} {scope : Scope} {p py spos : Pos} {n : Nat} {y : Str} (hhot : c.hot = false)
    (hy : X.N[n]? = some y) (hyl : X.env.scope.names.lookup y = some .local) (hsw : swapsWith (.ListComp e [⟨t, i, ifs, 0⟩] scope p) (some (.Name y py)) spos.line X.env = pure true)
    (hi : L2.PI X t i (rdI G [] W ik (evs c it))) (ok : L2.blkC X.N X.env.scope scope (ownOf tg X.N) = true) (htg : tgB false (relS scope X.env.scope) X.N tg t = true) (hset : notSet i = true)
    (ht : ∀ (B : Addr → Prop) (s : Shared) (H : Hp) (C : Addr) (cl : List (Str × Addr)) (fp : List Addr), PTs (X.blk s H scope (compEnvC scope cl C X.env) fp) ifs (rdT (G.at B) [] noWX (testG c ts)))
    (he : ∀ (B : Addr → Prop) (s : Shared) (H : Hp) (C : Addr) (cl : List (Str × Addr)) (fp : List Addr), PE (X.blk s H scope (compEnvC scope cl C X.env) fp) e (rdE (G.at B) [] noWX (ev c elt))) :
    PS X (.Assign [.Name y py] (.ListComp e [⟨t, i, ifs, 0⟩] scope p) spos) (tAsg (tLc (rdI G [] W ik (evs c it)) (gT X.K tg) (fun σ H Q => ∃ B, rdT (G.at B) [] noWX (testG c ts) σ H Q) (fun σ H Q => ∃ B, rdE (G.at B) [] noWX (ev c elt) σ H Q) ((ownOf tg X.N).map (·.2))) (gName n)) :=
  ps_setLc hcalm hN hy hyl hsw hi (L2.blkOk_by ok)
    (fun s H C cl fp => pg_tg (X := X.blk s H scope (compEnvC scope cl C X.env) fp) hN (fun z => by cases z) (.inl hcalm) htg)
    (fun s H C cl fp => ⟨fun pins s' σ' H' Q I ⟨B, q⟩ => (ht B s H C cl fp).run pins s' σ' H' Q I q⟩)
    (fun s H C cl fp => ⟨fun pins s' σ' H' Q I ⟨B, q⟩ => (he B s H C cl fp).run pins s' σ' H' Q I q⟩)
    (by intro x; cases i <;> first | exact ff hset | rfl)
end
end PI

set_option maxRecDepth 100000
set_option maxHeartbeats 1000000
namespace PI
open PySem PySem.Spec PyProof.Rows L2
section
variable {G : Gd} {T : Tb} {P : Prog} {hot : Bool} {k : Nat} {pn : Pn} {W : WX} {X : Cx}
theorem Am.blk (A : Am G T P hot k pn W X) (hh : hot = false) (B : Addr → Prop) (s : Shared) (H : Hp) (scope : Scope) (C : Addr) (cl : List (Str × Addr)) (fp : List Addr) : Am (G.at B) T P hot k [] noWX (X.blk s H scope (compEnvC scope cl C X.env) fp) :=
  ⟨A.hK, (A.at B).ft, (A.at B).fn, (A.at B).fnH, A.room, A.calm, fun _ => rfl, (fun z => by rw [hh] at z; cases z), (fun p hp => by cases hp), fun u s' ⟨a, B, sI, pins, σ, H, cls, d, e, I, nb, up, sky, na, os, ag, w⟩ => w.elim, A.nd⟩
theorem pw_pt {o : BoolOp} {l : List Expr} {p : Pos} {t : TT} (h : PT X (.BoolOp o l p) t) : PW X (.BoolOp o l p) t := ⟨fun wh pins s σ H Q I q => h.run pins s σ H Q I q⟩
theorem not_star {ir : IE} {sc : Scope} {N : List Str} {x : Expr} (h : okE T ir sc N x = true) : notStar x = true := by
  cases x <;> first | rfl | skip
  cases ir <;> exact ff h
theorem snd_t0 {c : Cl} : PTs X [] (rdT G pn W (testG c [])) := ⟨fun pins s σ H Q I ⟨φ, sl, L, hR, hS, hF⟩ => pts_nil.run pins s σ H Q I (by
  simp only [testG, evs, R.bind_ok, testOf, R.opt_some] at hF
  exact hF φ true H hR (Ext.refl _ _ _ _) rfl)⟩
theorem snd_t1 {c : Cl} {e : IE} {x : Expr} (h : PT X x (rdT G pn W (evt c e))) : PTs X [x] (rdT G pn W (testG c [e])) := ⟨fun pins s σ H Q I ⟨φ, sl, L, hR, hS, hF⟩ => (pts_one h).run pins s σ H Q I (by
  refine ⟨φ, sl, L, hR, hS, ?_⟩
  simp only [testG, evs] at hF
  simp only [evt]
  cases h1 : ev c e sl L with
  | stuck => rw [h1] at hF; exact hF
  | exc C fs L1 => rw [h1] at hF; exact hF
  | ok y L1 => rw [h1] at hF; exact hF)⟩
theorem walk_of {c : Cl} {ik : IK} {it : List IE} {i t : Expr} {xs : List Expr} (A : Am G T P hot k pn W X) (h : itArgs T X.env.scope ik i = some xs) (ok : okEs T it X.env.scope X.N xs = true) (ha : PA X xs (rdA G pn W (evs c it))) (he : ∀ e x, it = [e] → okE T e X.env.scope X.N x = true → PE X x (rdE G pn W (ev c e))) : L2.PI X t i (rdI G pn W ik (evs c it)) := by
  cases ik with
  | over =>
    simp only [itArgs] at h
    split at h
    · cases h
      match it, ok with
      | [], ok => exact ff ok
      | [e], ok => exact pi_sndO A.hK (he e i rfl (a1 (a1 ok)))
      | _ :: _ :: _, ok => exact ff (a2 ok)
    · cases h
  | range =>
    cases i <;> first | cases h | skip
    rename_i g args kws pos
    cases g <;> first | cases h | skip
    cases kws <;> first | cases h | skip
    simp only [itArgs] at h
    split at h
    · rename_i hb
      cases h
      have e1 : _ = ("range" : Str) := of_decide_eq_true (a1 (a1 (a1 hb)))
      subst e1
      have e2 := a2 (a1 (a1 hb))
      have e3 := glB_ok (a2 (a1 hb))
      have e4 : xs.length = 1 ∨ xs.length = 2 := by simpa using a2 hb
      exact pi_sndR e3 (A.ft.free _ (by simpa using e2)) e4 (okEs_len ok) (okEs_star ok) ha
    · cases h
  | enum => cases h
  | zip => cases h
  | revd => cases h
theorem hot_comp {c : Cl} {own : Bool} {elt : IE} {tg : ITg} {ik : IK} {it ts : List IE} {x : Expr} (h : c.hot = true) : PE X x (rdE G pn W (ev c (.comp own elt tg ik it ts))) :=
  ⟨fun pins s σ H Q I ⟨φ, sl, L, hR, hS, hF⟩ => by simp [ev, h, Fin] at hF⟩
end
variable {T : Tb} {P : Prog} {hot : Bool} {k : Nat}
mutual
theorem sndE : ∀ (ir : IE) {G : Gd} {pn : Pn} {W : WX} {X : Cx} (A : Am G T P hot k pn W X) {x : Expr}, okE T ir X.env.scope X.N x = true → PE X x (rdE G pn W (ev (cl P hot k) ir)) ∧ PT X x (rdT G pn W (evt (cl P hot k) ir))
  | .c d, G, pn, W, X, A, x, h => by
    obtain ⟨q, j, p, rfl, h1⟩ := okE_c h
    have := snd_c (G := G) (pn := pn) (W := W) (X := X) (c := cl P hot k) (p := p) (k := q) (j := j) h1
    exact ⟨this, ptv A.hK this (by intro _; rfl)⟩
  | .v i, G, pn, W, X, A, x, h => by
    obtain ⟨y, p, rfl, h1, h2, h3, h4⟩ := okE_v h
    have := snd_v (G := G) (pn := pn) (W := W) (X := X) (c := cl P hot k) (p := p) h1 h2 h3 h4
    exact ⟨this, ptv A.hK this (by intro _; rfl)⟩
  | .g i, G, pn, W, X, A, x, h => by
    obtain ⟨y, p, rfl, h1, h2, h3, h4⟩ := okE_g h
    have := snd_g (G := G) (pn := pn) (W := W) (X := X) (c := cl P hot k) (p := p) A.ft rfl h1 h2 h3 h4
    exact ⟨this, ptv A.hK this (by intro _; rfl)⟩
  | .tup es, G, pn, W, X, A, x, h => by
    obtain ⟨xs, j, p, rfl, h1⟩ := okE_tup h
    have := snd_tup (p := p) (sndEs es A h1) (j := j)
    exact ⟨this, ptv A.hK this (by intro _; rfl)⟩
  | .lst own es, G, pn, W, X, A, x, h => by
    obtain ⟨xs, p, rfl, h1⟩ := okE_lst h
    have := snd_lst (p := p) (own := own) (sndEs es A h1)
    exact ⟨this, ptv A.hK this (by intro _; rfl)⟩
  | .bin op own a b, G, pn, W, X, A, x, h => by
    obtain ⟨y, o, z, p, rfl, rfl, h1, h2⟩ := okE_bin h
    have := snd_bin (p := p) A.hK (op := op) (own := own) (sndE a A h1).1 (sndE b A h2).1
    exact ⟨this, ptv A.hK this (by intro _; rfl)⟩
  | .neg a, G, pn, W, X, A, x, h => by
    obtain ⟨y, p, rfl, h1⟩ := okE_neg h
    have := snd_neg (p := p) (sndE a A h1).1
    exact ⟨this, ptv A.hK this (by intro _; rfl)⟩
  | .cmp op a b, G, pn, W, X, A, x, h => by
    obtain ⟨y, o, z, p, rfl, rfl, h1, h2, h3⟩ := okE_cmp h
    exact snd_cmp A.hK A.un h3 (sndE a A h1).1 (sndE b A h2).1
  | .chain o1 o2 a b d, G, pn, W, X, A, x, h => by
    obtain ⟨y, p1, p2, z, w, p, rfl, rfl, rfl, h1, h2, h3, h4⟩ := okE_chain h
    exact snd_chain A.hK A.un h4 (sndE a A h1).1 (sndE b A h2).1 (sndE d A h3).1
  | .and a b, G, pn, W, X, A, x, h => by
    obtain ⟨y, z, r, p, rfl, h1, h2⟩ := okE_and h
    rcases h2 with ⟨rfl, h2⟩ | h2
    · obtain ⟨q1, q2⟩ := sndE b A h2
      have := snd_and A.hK (sndE a A h1).1 (sndE a A h1).2 (pe_one (pos := p) q1) (pw_and1 q2)
      exact ⟨this.1, this.2.pt⟩
    · obtain ⟨q1, q2⟩ := sndE b A h2
      have := snd_and A.hK (sndE a A h1).1 (sndE a A h1).2 q1 (pw_pt q2)
      exact ⟨this.1, this.2.pt⟩
  | .or a b, G, pn, W, X, A, x, h => by
    obtain ⟨y, z, r, p, rfl, h1, h2⟩ := okE_or h
    rcases h2 with ⟨rfl, h2⟩ | h2
    · obtain ⟨q1, q2⟩ := sndE b A h2
      have := snd_or A.hK (sndE a A h1).1 (sndE a A h1).2 (pe_one (pos := p) q1) (pw_or1 q2)
      exact ⟨this.1, this.2.pt⟩
    · obtain ⟨q1, q2⟩ := sndE b A h2
      have := snd_or A.hK (sndE a A h1).1 (sndE a A h1).2 q1 (pw_pt q2)
      exact ⟨this.1, this.2.pt⟩
  | .not a, G, pn, W, X, A, x, h => by
    obtain ⟨y, p, rfl, h1⟩ := okE_not h
    exact snd_not A.hK (sndE a A h1).1 (sndE a A h1).2
  | .ife t a b, G, pn, W, X, A, x, h => by
    obtain ⟨y, z, w, p, rfl, h1, h2, h3⟩ := okE_ife h
    exact snd_ife (sndE t A h1).2 (sndE a A h2).1 (sndE a A h2).2 (sndE b A h3).1 (sndE b A h3).2
  | .sub a i, G, pn, W, X, A, x, h => by
    obtain ⟨y, z, p, rfl, h1, h2, h3⟩ := okE_sub h
    have := snd_sub (p := p) A.hK A.un h3 (sndE a A h1).1 (sndE i A h2).1
    exact ⟨this, ptv A.hK this (by intro _; rfl)⟩
  | .slice own a lo hi, G, pn, W, X, A, x, h => by
    obtain ⟨y, l, u, p, q, rfl, h1, h2, h3⟩ := okE_slice h
    have := snd_slice (p := q) (p2 := p) (own := own) A.hK (sndE a A h1).1 (sndP lo A h2) (sndP hi A h3)
    exact ⟨this, ptv A.hK this (by intro _; rfl)⟩
  | .rev own a, G, pn, W, X, A, x, h => by
    obtain ⟨y, q, p1, p2, p3, p, rfl, h1⟩ := okE_rev h
    have := snd_rev (p := p) (p1 := p1) (p2 := p2) (p3 := p3) (own := own) (k := q) A.hK (sndE a A h1).1
    exact ⟨this, ptv A.hK this (by intro _; rfl)⟩
  | .call own f es ks, G, pn, W, X, A, x, h => by
    obtain ⟨y, p, args, kws, q, rfl, h1, h2, h3, h4, h5, h6⟩ := okE_call h
    have := snd_call (p := p) (pos := q) (own := own) A h1 h2 h3 h4 h5 h6 (sndEs es A h5) (sndKs ks A h6)
    exact ⟨this, ptv A.hK this (by intro _; rfl)⟩
  | .bi own b es, G, pn, W, X, A, x, h => by
    obtain ⟨y, p, args, q, rfl, h1, h2, h3, h4, h5, h6, h7⟩ := okE_bi h
    have := snd_bi (p := p) (pos := q) (own := own) (c := cl P hot k) A.hK A.un A.calm h1 h2 (A.ft.free y h3) h4 h5 h7 (okEs_star h6) (sndEs es A h6)
    exact ⟨this, ptv A.hK this (by intro _; rfl)⟩
  | .isi e cs, G, pn, W, X, A, x, h => by
    obtain ⟨y, p, z, v, q, rfl, h1, h2, h3, h4, h5⟩ := okE_isi h
    have := snd_isi (p := p) (pos := q) (c := cl P hot k) A.hK A.pns A.ft rfl h1 h2 h3 (not_star h4) h5 (sndE e A h4).1
    exact ⟨this, ptv A.hK this (by intro _; rfl)⟩
  | .comp own elt tg ik it ts, G, pn, W, X, A, x, h => by
    obtain ⟨e, t, i, ifs, scope, p, xs, rfl, h1, h2, h3, h4, h5, h6, h7, h8, h9⟩ := okE_comp h
    cases hh : hot with
    | true =>
      have : PE X (.ListComp e [⟨t, i, ifs, 0⟩] scope p) (rdE G pn W (ev (cl P true k) (.comp own elt tg ik it ts))) := hot_comp rfl
      exact ⟨this, ptv A.hK this (by intro _; rfl)⟩
    | false =>
      have hp : pn = [] := A.pn0 hh
      subst hp
      have hw : L2.PI X t i (rdI G [] W ik (evs (cl P hot k) it)) := walk_of A h3 h4 (sndEs it A h4) (sndH it A)
      have ht := fun (B : Addr → Prop) (s : Shared) (H : Hp) (C : Addr) (cl' : List (Str × Addr)) (fp : List Addr) => sndTs ts (A.blk hh B s H scope C cl' fp) h5 h6
      have he := fun (B : Addr → Prop) (s : Shared) (H : Hp) (C : Addr) (cl' : List (Str × Addr)) (fp : List Addr) => (sndE elt (A.blk hh B s H scope C cl' fp) h7).1
      subst hh
      have := snd_comp (own := own) (p := p) A.hK (A.calm rfl) A.nd rfl hw h1 h2 h8 ht he
      exact ⟨this, ptv A.hK this (by intro _; rfl)⟩
  | .meth own m e es, G, pn, W, X, A, x, h => by
    obtain ⟨y, n, ap, args, cp, rfl, h1, h2, h3, h4, h5, h6, h7⟩ := okE_meth h
    have := snd_meth (own := own) A.hK h1 h2 h4 h3 h7 (okEs_star h6) (okEs_len h6) (sndE e A h5).1 (sndEs es A h6)
    exact ⟨this, ptv A.hK this (by intro _; rfl)⟩
  | .fld e f, G, pn, W, X, A, x, h => by
    obtain ⟨y, n, p, rfl, h1, h2, h3⟩ := okE_fld h
    have := snd_fld (p := p) A h1 h2 (sndE e A h3).1
    exact ⟨this, ptv A.hK this (by intro _; rfl)⟩
  | .dnew own, G, pn, W, X, A, x, h => by
    obtain ⟨p, rfl⟩ := okE_dnew h
    have := snd_dnew (G := G) (pn := pn) (W := W) (X := X) (c := cl P hot k) (p := p) (own := own)
    exact ⟨this, ptv A.hK this (by intro _; rfl)⟩
  | .lenset e, G, pn, W, X, A, x, h => by
    cases x <;> exact ff h
  | .comp2 own elt tg ik it ts tg2 ik2 it2 ts2, G, pn, W, X, A, x, h => by
    cases x <;> exact ff h
theorem sndEs : ∀ (es : List IE) {G : Gd} {pn : Pn} {W : WX} {X : Cx} (A : Am G T P hot k pn W X) {xs : List Expr}, okEs T es X.env.scope X.N xs = true → PA X xs (rdA G pn W (evs (cl P hot k) es))
  | [], G, pn, W, X, A, [], h => snd_nil
  | [], G, pn, W, X, A, _ :: _, h => ff h
  | _ :: _, G, pn, W, X, A, [], h => ff h
  | e :: es, G, pn, W, X, A, x :: xs, h => snd_cons (a2 (a1 h)) (sndE e A (a1 (a1 h))).1 (sndEs es A (a2 h))
/-- the single one -/
theorem sndH : ∀ (it : List IE) {G : Gd} {pn : Pn} {W : WX} {X : Cx} (A : Am G T P hot k pn W X) (e : IE) (x : Expr), it = [e] → okE T e X.env.scope X.N x = true → PE X x (rdE G pn W (ev (cl P hot k) e))
  | [], G, pn, W, X, A, e, x, q, h => by cases q
  | [e'], G, pn, W, X, A, e, x, q, h => by
    have e1 : e' = e := by injection q
    have := fun h' => (sndE e' A (x := x) h').1
    rw [← e1] at h ⊢
    exact this h
  | _ :: _ :: _, G, pn, W, X, A, e, x, q, h => by cases q
/-- tests of a comprehension -/
theorem sndTs : ∀ (ts : List IE) {G : Gd} {pn : Pn} {W : WX} {X : Cx} (A : Am G T P hot k pn W X) {xs : List Expr}, okEs T ts X.env.scope X.N xs = true → xs.length ≤ 1 → PTs X xs (rdT G pn W (testG (cl P hot k) ts))
  | [], G, pn, W, X, A, [], h, _ => snd_t0
  | [], G, pn, W, X, A, _ :: _, h, _ => ff h
  | _ :: _, G, pn, W, X, A, [], h, _ => ff h
  | [e], G, pn, W, X, A, [x], h, _ => snd_t1 (sndE e A (a1 (a1 h))).2
  | _ :: _ :: _, G, pn, W, X, A, [_], h, _ => ff (a2 h)
  | _ :: _, G, pn, W, X, A, _ :: _ :: _, h, hl => absurd hl (by simp)
theorem sndKs : ∀ (es : List (Nat × IE)) {G : Gd} {pn : Pn} {W : WX} {X : Cx} (A : Am G T P hot k pn W X) {xs : List Keyword}, okKs T es X.env.scope X.N xs = true → PK X xs (rdK G pn W (evk (cl P hot k) es))
  | [], G, pn, W, X, A, [], h => snd_knil
  | [], G, pn, W, X, A, _ :: _, h => ff h
  | _ :: _, G, pn, W, X, A, [], h => ff h
  | (n, e) :: es, G, pn, W, X, A, ⟨none, x, kp⟩ :: xs, h => ff h
  | (n, e) :: es, G, pn, W, X, A, ⟨some m, x, kp⟩ :: xs, h => snd_kcons (sndE e A (a2 (a1 h))).1 (sndKs es A (a2 h))
theorem sndP : ∀ (e : Option IE) {G : Gd} {pn : Pn} {W : WX} {X : Cx} (A : Am G T P hot k pn W X) {x : Option Expr}, okP T e X.env.scope X.N x = true → PO X x (rdP G pn W (evp (cl P hot k) e))
  | none, G, pn, W, X, A, none, h => snd_po0
  | none, G, pn, W, X, A, some _, h => ff h
  | some _, G, pn, W, X, A, none, h => ff h
  | some e, G, pn, W, X, A, some x, h => snd_po (sndE e A h).1
end
end PI

set_option maxRecDepth 100000
set_option maxHeartbeats 1000000
namespace PI
open PySem PySem.Spec PyProof.Rows L2

def notComp : Expr → Bool
  | .ListComp _ _ _ _ => false
  | .SetComp _ _ _ _ => false
  | .DictComp _ _ _ _ _ => false
  | _ => true
def notTup : Expr → Bool
  | .Tuple _ _ _ => false
  | _ => true
/-- name = [..] on one line -/
def compB : Expr → Expr → Bool
  | .Name y py, .ListComp _ _ scope p => (py.line == p.line) && !(scope.names.any fun (n, k) => n == y && (k == .local || k == .cell))
  | _, _ => false
mutual
def okS (T : Tb) : IS → Scope → List Str → Stmt → Bool
  | .set i e, sc, N, .Assign [t] x _ => nmB true sc N i t && okE T e sc N x && (notComp x || (compB t x && nmB false sc N i t))
  | .unp is e, sc, N, .Assign [t] x _ => tgB true sc N (.tp is) t && okE T e sc N x && notComp x && notTup x
  | .put o i e, sc, N, .Assign [.Subscript a b _] x _ => okE T e sc N x && okE T o sc N a && okE T i sc N b && notComp x && notSlice b
  | .aug i op e, sc, N, .AugAssign t o x _ => nmB true sc N i t && decide (o = op.py) && (decide (op = .add) || decide (op = .sub)) && okE T e sc N x
  | .ex e, sc, N, .Expr x _ => okE T e sc N x && notComp x
  | .ret none, _, _, .Return none _ => true
  | .ret (some e), sc, N, .Return (some x) _ => okE T e sc N x
  | .ife t a b, sc, N, .If x y z _ => okE T t sc N x && okB T a sc N y && okB T b sc N z
  | .for_ tg k it b, sc, N, .For t i body [] _ => tgB true sc N tg t && (match itArgs T sc k i with
      | some xs => okEs T it sc N xs
      | none => false) && okB T b sc N body && notSet i
  | .whl t b, sc, N, .While x body [] _ => okE T t sc N x && okB T b sc N body
  | .pass, _, _, .Pass _ => true
  | .pass, _, _, .Expr (.Constant (.str _) _ _) _ => true
  | .brk, _, _, .Break _ => true
  | .raise C es, sc, N, .Raise (some (.Call (.Name x _) args [] _)) none _ => decide (x = T.nm C) && T.excs.contains C && glB sc x && !dbgB x && okEs T es sc N args && !args.isEmpty && decide (args.length ≤ 1000)
  | .try_ b C i h, sc, N, .Try body [.ExceptHandler (some (.Name x _)) (some n) (s0 :: suite) _] [] [] _ => okB T b sc N body && okB T h sc N (s0 :: suite) && decide (x = T.nm C) && T.cls.contains C && glB sc x && !dbgB x && decide (N[i]? = some n) && locB sc n
  | .cont, _, _, .Continue _ => true
  | _, _, _, _ => false
def okB (T : Tb) : List IS → Scope → List Str → List Stmt → Bool
  | [], _, _, [] => true
  | s :: r, sc, N, xs => (match s, xs with
    | .frz _, xs => okB T r sc N xs
    | s, x :: xs => okS T s sc N x && okB T r sc N xs
    | _, [] => false)
  | [], _, _, _ :: _ => false
end

def FinS (G : Gd) (pn : Pn) (W : WX) (φ : List Addr) (L : LH) (H : Hp) (D : Ends) : RS → Prop
  | .nx sl L' => ∀ φ' σ' H', HR G φ' L' H' → Ext G φ L H φ' L' H' → RSl G pn φ' (Own G φ' L') H' sl σ' → D.nx σ' H'
  | .rt x L' => ∀ φ' v H', HR G φ' L' H' → Ext G φ L H φ' L' H' → RV G pn φ' (Own G φ' L') H' x v → D.rt v H'
  | .bk sl L' => ∀ φ' σ' H', HR G φ' L' H' → Ext G φ L H φ' L' H' → RSl G pn φ' (Own G φ' L') H' sl σ' → D.bk σ' H'
  | .ct sl L' => ∀ φ' σ' H', HR G φ' L' H' → Ext G φ L H φ' L' H' → RSl G pn φ' (Own G φ' L') H' sl σ' → D.ct σ' H'
  | .exc C fs sl L' => ∀ φ' σ' H', HR G φ' L' H' → Ext G φ L H φ' L' H' → RSl G pn φ' (Own G φ' L') H' sl σ' → WEx G W σ' C fs φ' L' H'
  | .stuck => False
section
variable {G : Gd} {pn : Pn} {W : WX} {φ φ1 : List Addr} {L L1 : LH} {H H1 : Hp} {D : Ends} {σ : L2.St} {sl : SL}
theorem FinS.ext {c : RS} (e : Ext G φ L H φ1 L1 H1) (h : FinS G pn W φ L H D c) : FinS G pn W φ1 L1 H1 D c := by
  cases c with
  | nx sl L' => exact fun φ' σ' H' a b c => h φ' σ' H' a (e.trans b) c
  | rt x L' => exact fun φ' v H' a b c => h φ' v H' a (e.trans b) c
  | bk sl L' => exact fun φ' σ' H' a b c => h φ' σ' H' a (e.trans b) c
  | ct sl L' => exact fun φ' σ' H' a b c => h φ' σ' H' a (e.trans b) c
  | exc C fs sl L' => exact fun φ' σ' H' a b c => h φ' σ' H' a (e.trans b) c
  | stuck => exact h
def rdS (G : Gd) (pn : Pn) (W : WX) (f : SL → LH → RS) : TS := fun D σ H => ∃ (φ : List Addr) (sl : SL) (L : LH), HR G φ L H ∧ RSl G pn φ (Own G φ L) H sl σ ∧ FinS G pn W φ L H D (f sl L)
/-- an expression within a statement -/
theorem stE {α β : Type} {Rel : List Addr → LH → Hp → α → β → Prop} {r : R α} {g : α → LH → RS} (hR : HR G φ L H) (hS : RSl G pn φ (Own G φ L) H sl σ) (h : FinS G pn W φ L H D (r.st sl g)) :
    Fin G Rel (WEx G W σ) φ L H (fun v H1 => ∃ (φ1 : List Addr) (L1 : LH) (x : α), HR G φ1 L1 H1 ∧ Ext G φ L H φ1 L1 H1 ∧ Rel φ1 L1 H1 x v ∧ RSl G pn φ1 (Own G φ1 L1) H1 sl σ ∧ FinS G pn W φ1 L1 H1 D (g x L1)) r := by
  cases r with
  | ok x L1 => exact fun φ' v H' h1 e1 r1 => ⟨φ', L1, x, h1, e1, r1, hS.go e1, h.ext e1⟩
  | exc C fs L1 => exact fun φ' H' h1 e1 => h φ' σ H' h1 e1 (hS.go e1)
  | stuck => exact h
/-- a statement, then more -/
theorem seqS {r : RS} {f : SL → LH → RS} (h : FinS G pn W φ L H D (r.thn f)) : FinS G pn W φ L H { D with nx := fun σ H => rdS G pn W f D σ H } r := by
  cases r with
  | nx sl L' => exact fun φ' σ' H' a b c => ⟨φ', sl, L', a, c, FinS.ext b h⟩
  | rt x L' => exact h
  | bk sl L' => exact h
  | ct sl L' => exact h
  | exc C fs sl L' => exact h
  | stuck => exact h
/-- a loop's turn -/
theorem turnS {r : RS} {f : SL → LH → RS} {N : L2.St → Hp → Prop} (hN : ∀ φ' sl' L' σ' H', HR G φ' L' H' → Ext G φ L H φ' L' H' → RSl G pn φ' (Own G φ' L') H' sl' σ' → FinS G pn W φ' L' H' D (f sl' L') → N σ' H') (h : FinS G pn W φ L H D (r.turn f)) :
    FinS G pn W φ L H { D with nx := N, ct := N, bk := D.nx } r := by
  cases r with
  | nx sl L' => exact fun φ' σ' H' a b c => hN φ' sl L' σ' H' a b c (FinS.ext b h)
  | rt x L' => exact h
  | bk sl L' => exact h
  | ct sl L' => exact fun φ' σ' H' a b c => hN φ' sl L' σ' H' a b c (FinS.ext b h)
  | exc C fs sl L' => exact h
  | stuck => exact h
variable {X : Cx} {c : Cl}
theorem ss_set {g : TG} {i : Nat} {f : SL → LH → R V2} {t : TE} (hg : g = gName i) (h : ∀ σ H Q, rdE G pn W f σ H Q → t σ H Q) (hq : rdS G pn W (fun sl L => (f sl L).st sl fun x L1 => .nx (sl.set i (some x)) L1) D σ H) : tAsg t g D σ H := by
  subst hg
  obtain ⟨φ, sl, L, hR, hS, hF⟩ := hq
  refine h σ H _ ⟨φ, sl, L, hR, hS, (stE (Rel := RelV2 G pn) hR hS hF).mono fun v H1 ⟨φ1, L1, x, hR1, e1, r1, hS1, hF1⟩ => ?_⟩
  exact hF1 φ1 _ H1 hR1 (Ext.refl _ _ _ _) (hS1.set i r1)
theorem sw_false {e t : Expr} {l : Nat} (h : notComp e = true) : swapsWith e (some t) l X.env = pure false := by
  cases e <;> first | exact ff h | rfl
theorem sw_none {e : Expr} {l : Nat} (h : notComp e = true) : swapsWith e none l X.env = pure false := by
  cases e <;> first | exact ff h | rfl
theorem snd_set {i : Nat} {y : Str} {p pos : Pos} {x : Expr} {e : IE} (hN : X.N.Nodup) (hi : X.N[i]? = some y) (hl : Loc X.env.scope y) (hf : X.fn y = true) (hc : notComp x = true) (he : PE X x (rdE G pn W (ev c e))) : PS X (.Assign [.Name y p] x pos) (rdS G pn W (exec c (.set i e))) :=
  (ps_set hN hi hl he (sw_false hc) (.inl hf)).imp fun D σ H q => ss_set rfl (fun _ _ _ z => z) (by simpa only [exec] using q)
theorem snd_ex {x : Expr} {e : IE} {pos : Pos} (hc : notComp x = true) (he : PE X x (rdE G pn W (ev c e))) : PS X (.Expr x pos) (rdS G pn W (exec c (.ex e))) :=
  (ps_expr he (sw_none hc)).imp fun D σ H ⟨φ, sl, L, hR, hS, hF⟩ => by
    simp only [exec] at hF
    exact ⟨φ, sl, L, hR, hS, (stE (Rel := RelV2 G pn) hR hS hF).mono fun v H1 ⟨φ1, L1, x, hR1, e1, r1, hS1, hF1⟩ => hF1 φ1 σ H1 hR1 (Ext.refl _ _ _ _) hS1⟩
theorem snd_ret {x : Expr} {e : IE} {pos : Pos} (he : PE X x (rdE G pn W (ev c e))) : PS X (.Return (some x) pos) (rdS G pn W (exec c (.ret (some e)))) :=
  (ps_ret he).imp fun D σ H ⟨φ, sl, L, hR, hS, hF⟩ => by
    simp only [exec] at hF
    exact ⟨φ, sl, L, hR, hS, (stE (Rel := RelV2 G pn) hR hS hF).mono fun v H1 ⟨φ1, L1, x, hR1, e1, r1, hS1, hF1⟩ => hF1 φ1 v H1 hR1 (Ext.refl _ _ _ _) r1⟩
theorem snd_retN {pos : Pos} : PS X (.Return none pos) (rdS G pn W (exec c (.ret none))) :=
  ps_retN.imp fun D σ H ⟨φ, sl, L, hR, hS, hF⟩ => by
    simp only [exec] at hF
    exact hF φ .non H hR (Ext.refl _ _ _ _) rfl
theorem snd_pass {pos : Pos} : PS X (.Pass pos) (rdS G pn W (exec c .pass)) :=
  ps_pass.imp fun D σ H ⟨φ, sl, L, hR, hS, hF⟩ => by
    simp only [exec] at hF
    exact hF φ σ H hR (Ext.refl _ _ _ _) hS
theorem snd_doc {z : Str} {j : Nat} {p pos : Pos} : PS X (.Expr (.Constant (.str z) j p) pos) (rdS G pn W (exec c .pass)) :=
  ps_doc.imp fun D σ H ⟨φ, sl, L, hR, hS, hF⟩ => by
    simp only [exec] at hF
    exact hF φ σ H hR (Ext.refl _ _ _ _) hS
theorem snd_brk {pos : Pos} : PS X (.Break pos) (rdS G pn W (exec c .brk)) :=
  ps_break.imp fun D σ H ⟨φ, sl, L, hR, hS, hF⟩ => by
    simp only [exec] at hF
    exact hF φ σ H hR (Ext.refl _ _ _ _) hS
theorem snd_cont {pos : Pos} : PS X (.Continue pos) (rdS G pn W (exec c .cont)) :=
  ps_continue.imp fun D σ H ⟨φ, sl, L, hR, hS, hF⟩ => by
    simp only [exec] at hF
    exact hF φ σ H hR (Ext.refl _ _ _ _) hS
theorem snd_ifS {t : IE} {a b : List IS} {x : Expr} {y z : List Stmt} {pos : Pos} (ht : PT X x (rdT G pn W (evt c t))) (ha : PSs X y (rdS G pn W (execs c a))) (hb : PSs X z (rdS G pn W (execs c b))) : PS X (.If x y z pos) (rdS G pn W (exec c (.ife t a b))) :=
  (ps_if ht ha hb).imp fun D σ H ⟨φ, sl, L, hR, hS, hF⟩ => by
    simp only [exec] at hF
    refine ⟨φ, sl, L, hR, hS, (stE (Rel := fun _ _ _ a b => a = b) hR hS hF).mono fun v H1 ⟨φ1, L1, k, hR1, e1, r1, hS1, hF1⟩ => ?_⟩
    subst r1
    cases k with
    | true => exact ⟨φ1, sl, L1, hR1, hS1, hF1⟩
    | false => exact ⟨φ1, sl, L1, hR1, hS1, hF1⟩
theorem snd_whl {t : IE} {b : List IS} {x : Expr} {y : List Stmt} {pos : Pos} (hp : PassesOwn (model X.prog X.w) X.A X.env X.xe) (ht : PT X x (rdT G pn W (evt c t))) (hb : PSs X y (rdS G pn W (execs c b))) : PS X (.While x y [] pos) (rdS G pn W (exec c (.whl t b))) :=
  (ps_while hp ht hb).imp fun D σ H ⟨φ, sl, L, hR, hS, hF⟩ => by
    simp only [exec] at hF
    refine ⟨fun m σ H => rdS G pn W (fun sl L => whlGo (fun s' L' => evt c t s' L') (fun s' L' => execs c b s' L') m sl L) D σ H, ⟨whlMost, φ, sl, L, hR, hS, hF⟩, ?_⟩
    rintro m σ2 H2 ⟨φ2, sl2, L2, hR2, hS2, hF2⟩
    cases m with
    | zero => exact hF2.elim
    | succ n =>
      simp only [whlGo] at hF2
      refine ⟨φ2, sl2, L2, hR2, hS2, (stE (Rel := fun _ _ _ a b => a = b) hR2 hS2 hF2).mono fun v H1 ⟨φ1, L1, k, hR1, e1, r1, hS1, hF1⟩ => ?_⟩
      subst r1
      cases k with
      | true => exact ⟨_, fun σ' H' q => ⟨n, Nat.lt_succ_self n, q⟩, φ1, sl2, L1, hR1, hS1, turnS (fun φ' sl' L' σ' H' a b c d => ⟨φ', sl', L', a, c, d⟩) hF1⟩
      | false => exact hF1 φ1 σ2 H1 hR1 (Ext.refl _ _ _ _) hS1
theorem snd_for (hK : X.K = G.K) (hN : X.N.Nodup) (hcalm : X.calm = true) (hhot : c.hot = false) {tg : ITg} {ik : IK} {it : List IE} {b : List IS} {t i : Expr} {y : List Stmt} {pos : Pos} (hp : PassesOwn (model X.prog X.w) X.A X.env X.xe) (hfn : ∀ y, X.fn y = true) (htg : tgB true X.env.scope X.N tg t = true) (hset : notSet i = true)
    (hi : L2.PI X t i (rdI G pn W ik (evs c it))) (hb : PSs X y (rdS G pn W (execs c b))) : PS X (.For t i y [] pos) (rdS G pn W (exec c (.for_ tg ik it b))) :=
  (ps_for hp hcalm hi (pg_tg hN (fun _ => hfn) (.inl hcalm) htg) hb (by intro x; cases i <;> first | exact ff hset | rfl)).imp fun D σ H ⟨φ, sl, L, hR, hS, hF⟩ => by
    simp only [exec, hhot, Bool.false_eq_true, if_false] at hF
    refine ⟨φ, sl, L, hR, hS, (stE (Rel := RelVs G pn) hR hS hF).mono fun vs H1 ⟨φ1, L1, xs, hR1, e1, r1, hS1, hF1⟩ => ?_⟩
    cases hit : itemsV ik xs L1 with
    | none => rw [hit] at hF1; exact hF1.elim
    | some ds =>
      rw [hit] at hF1
      refine ⟨φ1, L1, xs, ds, hR1, r1, hit, fun J hJ => ?_⟩
      let Pv : Nat → L2.St → Hp → Prop := fun j σ H => ∃ (φ : List Addr) (L : LH) (sl : SL), HR G φ L H ∧ Ext G φ1 L1 H1 φ L H ∧ RSl G pn φ (Own G φ L) H sl σ ∧ FinS G pn W φ L H D (forGo (fun s' L' => execs c b s' L') tg (srcOf ik xs) ds (ds.drop j) sl L)
      refine ⟨fun j m σ H => m = ds.length - j ∧ j ≤ ds.length ∧ Pv j σ H, ⟨ds.length, by simp, Nat.zero_le _, φ1, L1, sl, hR1, Ext.refl _ _ _ _, hS1, hF1⟩, ?_⟩
      rintro j m σ2 H2 ⟨rfl, hj, φ2, L2, sl2, g1, g2, g3, g4⟩
      by_cases hlt : j < ds.length
      · right
        obtain ⟨d, hd, hdrop⟩ := drop_at hlt
        rw [hdrop] at g4
        simp only [forGo] at g4
        by_cases hsrc : srcOk (srcOf ik xs) ds L2
        · rw [if_pos hsrc] at g4
          obtain ⟨hgo, hyld⟩ := (hJ G.B φ2 L2 H2 g1 g2.stp g2.pre hsrc).1 j d hd
          refine ⟨hgo, Pv (j + 1), fun σ' H' p' => ⟨ds.length - (j + 1), by omega, rfl, hlt, p'⟩, fun x H' y => ?_⟩
          obtain ⟨y1, y2, y3⟩ := hyld x H' y
          cases hst : store tg d sl2 with
          | none => rw [hst] at g4; exact g4.elim
          | some sl' =>
            rw [hst] at g4
            have hS2 : RSl G pn φ2 (Own G φ2 L2) H' sl2 σ2 := RSl.go y2 g3
            refine store_rel (G := G) (pn := pn) hK y3 ⟨hS2.1, fun i x _ => hS2.2 i x⟩ hst fun σ' hs1 hs2 hs3 => ⟨φ2, sl', L2, y1, hs1, ?_⟩
            exact turnS (fun φ' sl'' L' σ'' H'' a b c d => ⟨φ', L', sl'', a, (g2.trans y2).trans b, c, d⟩) (FinS.ext y2 g4)
        · rw [if_neg hsrc] at g4; exact g4.elim
      · left
        have ej : j = ds.length := by omega
        subst ej
        rw [List.drop_length] at g4
        simp only [forGo] at g4
        by_cases hsrc : srcOk (srcOf ik xs) ds L2
        · rw [if_pos hsrc] at g4
          exact ⟨(hJ G.B φ2 L2 H2 g1 g2.stp g2.pre hsrc).2, g4 φ2 σ2 H2 g1 (Ext.refl _ _ _ _) g3⟩
        · rw [if_neg hsrc] at g4; exact g4.elim
end
end PI

set_option maxRecDepth 100000
set_option maxHeartbeats 1000000
namespace PI
open PySem PySem.Spec PyProof.Rows L2
section
variable {G : Gd} {T : Tb} {P : Prog} {hot : Bool} {k : Nat} {pn : Pn} {W : WX} {X : Cx} {c : Cl} {D : Ends} {σ : L2.St} {H : Hp}
/-- o[i] = v, by values -/
def rdPut (G : Gd) (pn : Pn) : TSet := fun o i v H Q => ∃ (φ : List Addr) (L L' : LH) (x j : V2) (d : PI.D), HR G φ L H ∧ RV G pn φ (Own G φ L) H x o ∧ RV G pn φ (Own G φ L) H j i ∧ RD G (Own G φ L) H d v ∧ putV x j d L = some L' ∧ ∀ H', HR G φ L' H' → Ext G φ L H φ L' H' → Q H'
theorem ok_put (hu : X.A.units + 64 < cLine) : PSet X (rdPut G pn) := by
  intro pins s σ H o i v ov iv u Q I ro ri rv ⟨φ, L, L', x, j, d, hR, r1, r2, r3, e, hq⟩
  cases x with
  | val _ => cases e
  | exn _ _ => cases e
  | ref n =>
    simp only [putV] at e
    cases hL : L[n]? with
    | none => rw [hL] at e; cases e
    | some lo =>
      rw [hL] at e
      cases lo with
      | dead => cases e
      | ins C fs => cases e
      | lst xs =>
        simp only at e
        cases hj : j.int? with
        | none => rw [hj] at e; cases e
        | some k =>
          rw [hj] at e
          simp only [Option.bind_some] at e
          obtain ⟨rfl, rfl⟩ := RV.int r2 hj
          obtain ⟨a, vs, rfl, ha, hH, rs⟩ := RV.own hR r1 hL
          cases hm : L2.ixN xs.length k with
          | none => rw [hm] at e; cases e
          | some m =>
            rw [hm] at e
            cases e
            refine set_list pins s σ H _ _ v ov iv u Q I ro ri rv ⟨a, vs, k, m, rfl, rfl, hH, by rw [← rs.len]; exact hm, ?_⟩
            obtain ⟨q1, q2⟩ := fin_put hR (ys := xs.set m d) (us := vs.set m v) hL ha (rs.set m r3)
            exact hq _ q1 q2
      | dct kvs =>
        simp only at e
        cases hj : j.dat? with
        | none => rw [hj] at e; cases e
        | some k =>
          rw [hj] at e
          simp only [Option.bind_some] at e
          by_cases hk : (keyOk k && decide (kvs.length < lim)) = true
          · rw [if_pos hk] at e
            cases e
            simp only [Bool.and_eq_true, decide_eq_true_eq] at hk
            have ey : j = .val k := by cases j <;> simp [V2.dat?] at hj; rw [hj]
            subst ey
            obtain ⟨rfl, hK⟩ := rk_rd r2 hk.1
            obtain ⟨a, rfl, ha⟩ := r1
            obtain ⟨ks, hH, rk⟩ := hR.at_ n _ a hL ha
            refine set_dict (by omega) pins s σ H _ _ v ov iv u Q I ro ri rv ⟨a, _, rfl, DPut.k hH (by rw [← rk.len, ← lim_eq]; exact hk.2), ?_⟩
            have st := hR.putStp hL (by intro z; cases z) ha (.dK (putK ks (kOf k) v)) (.dct (dictPut kvs k d))
            obtain ⟨q1, q2⟩ := hR.put hL (by intro z; cases z) ha (.dK (putK ks (kOf k) v)) (l' := .dct (dictPut kvs k d)) (by intro z; cases z) ⟨_, upd_same, RDk.go st _ _ (RDk.put hK r3 rk)⟩
            exact hq _ q1 q2
          · rw [if_neg hk] at e; cases e
theorem snd_put (hu : X.A.units + 64 < cLine) {o i e : IE} {a b x : Expr} {q pos : Pos} (hc : notComp x = true) (hs : notSlice b = true) (he : PE X x (rdE G pn W (ev c e))) (ho : PE X a (rdE G pn W (ev c o))) (hi : PE X b (rdE G pn W (ev c i))) : PS X (.Assign [.Subscript a b q] x pos) (rdS G pn W (exec c (.put o i e))) := by
  have hg : PG X (.Subscript a b q) (gSub (rdE G pn W (ev c o)) (rdE G pn W (ev c i)) (rdPut G pn)) := pg_sub ho hi (ok_put hu) (by intro v; cases b <;> first | exact ff hs | rfl)
  refine (ps_asg (pos := pos) he hg (show swapsWith x (some (.Subscript a b q)) pos.line X.env = pure false from sw_false hc) (by cases x <;> rfl)).imp fun D σ H ⟨φ, sl, L, hR, hS, hF⟩ => ?_
  simp only [exec] at hF
  refine ⟨φ, sl, L, hR, hS, (stE (Rel := RelV2 G pn) hR hS hF).mono fun v H1 ⟨φ1, L1, y, hR1, e1, r1, hS1, hF1⟩ => ?_⟩
  refine ⟨φ1, sl, L1, hR1, hS1, (stE (Rel := RelV2 G pn) hR1 hS1 hF1).mono fun ov H2 ⟨φ2, L2, z, hR2, e2, r2, hS2, hF2⟩ => ?_⟩
  refine ⟨φ2, sl, L2, hR2, hS2, (stE (Rel := RelV2 G pn) hR2 hS2 hF2).mono fun iv H3 ⟨φ3, L3, w, hR3, e3, r3, hS3, hF3⟩ => ?_⟩
  cases y with
  | ref n => exact hF3.elim
  | exn C fs => exact hF3.elim
  | val d =>
    simp only at hF3
    cases hp : putV z w d L3 with
    | none => rw [hp] at hF3; exact hF3.elim
    | some L4 =>
      rw [hp] at hF3
      exact ⟨φ3, L3, L4, z, w, d, hR3, RV.go e3 r2, r3, RV.go (x := .val d) e3 (RV.go (x := .val d) e2 r1), hp, fun H4 h4 e4 => hF3 φ3 σ H4 h4 e4 (hS3.go e4)⟩
theorem snd_unp (hN : X.N.Nodup) (hK : X.K = G.K) (hcalm : c.hot = false → X.calm = true) {is : List Nat} {e : IE} {t x : Expr} {pos : Pos} (hfn : ∀ y, X.fn y = true) (htg : tgB true X.env.scope X.N (.tp is) t = true) (hc : notComp x = true) (ht : notTup x = true) (he : PE X x (rdE G pn W (ev c e))) : PS X (.Assign [t] x pos) (rdS G pn W (exec c (.unp is e))) := by
  cases hh : c.hot with
  | true => exact ⟨fun pins s σ H D I ⟨φ, sl, L, hR, hS, hF⟩ => by simp [exec, hh, FinS] at hF⟩
  | false =>
    have hw : swappedStores [t] x X.env = pure none := by
      cases t <;> first | rfl | skip
      · cases x <;> first | exact ff ht | rfl
      · cases x <;> first | exact ff ht | rfl
    have h1 : (assignEach [t] X.env).map (·.2) = [assign t X.env] := by cases t <;> first | rfl | exact ff htg
    refine (ps_asg (pos := pos) he (pg_tg hN (fun _ => hfn) (.inl (hcalm hh)) htg) (show swapsWith x (some t) pos.line X.env = pure false from sw_false hc) hw h1).imp fun D σ H ⟨φ, sl, L, hR, hS, hF⟩ => ?_
    simp only [exec, hh, Bool.false_eq_true, if_false] at hF
    refine ⟨φ, sl, L, hR, hS, (stE (Rel := RelV2 G pn) hR hS hF).mono fun v H1 ⟨φ1, L1, y, hR1, e1, r1, hS1, hF1⟩ => ?_⟩
    cases y with
    | ref n => exact hF1.elim
    | exn C fs => exact hF1.elim
    | val d =>
      cases hst : unpV is (.val d) sl with
      | none => rw [hst] at hF1; exact hF1.elim
      | some sl' =>
        rw [hst] at hF1
        exact store_rel (G := G) (pn := pn) (t := .tp is) hK r1 ⟨hS1.1, fun i x _ => hS1.2 i x⟩ hst fun σ' q1 q2 q3 => hF1 φ1 σ' H1 hR1 (Ext.refl _ _ _ _) q1
/-- name op= e, ints -/
theorem snd_aug (hN : X.N.Nodup) {i : Nat} {op : OpB} {e : IE} {y : Str} {v : Expr} {q pos : Pos} (hy : X.N[i]? = some y) (hl : Loc X.env.scope y) (hf : X.fn y = true) (ho : op = .add ∨ op = .sub) (he : PE X v (rdE G pn W (ev c e))) : PS X (.AugAssign (.Name y q) op.py v pos) (rdS G pn W (exec c (.aug i op e))) := by
  have go : ∀ (f : Int → Int → Int), (∀ x z : Int, augI op x (some z) = some (f x z)) → ∀ D σ H, rdS G pn W (exec c (.aug i op e)) D σ H → tAug i (rdE G pn W (ev c e)) (ipI f) D σ H := fun f hfe D σ H ⟨φ, sl, L, hR, hS, hF⟩ => by
    simp only [exec] at hF
    split at hF
    · rename_i x hx
      obtain ⟨v, hv, rv⟩ := hS.2 i _ hx
      cases (show v = V.int x from rv)
      refine ⟨_, hv, φ, sl, L, hR, hS, (stE (Rel := RelV2 G pn) hR hS hF).mono fun u H1 ⟨φ1, L1, w, hR1, e1, r1, hS1, hF1⟩ => ?_⟩
      cases hz : w.int? with
      | none =>
        rw [hz] at hF1
        exact hF1.elim
      | some z =>
        rw [hz, hfe x z] at hF1
        obtain ⟨rfl, rfl⟩ := RV.int r1 hz
        exact ⟨x, z, rfl, rfl, hF1 φ1 _ H1 hR1 (Ext.refl _ _ _ _) (hS1.set i (x := .val (.int (f x z))) rfl)⟩
    · exact hF.elim
  rcases ho with rfl | rfl
  · exact (ps_aug hN hy hl he ip_add (.inl hf)).imp (go (fun i j => i + j) fun _ _ => rfl)
  · exact (ps_aug hN hy hl he ip_sub (.inl hf)).imp (go (fun i j => i - j) fun _ _ => rfl)
/-- the ghost -/
theorem snd_frz {i : Nat} {r : List IS} {xs : List Stmt} (h : PSs X xs (rdS G pn W (execs c r))) : PSs X xs (rdS G pn W (execs c (.frz i :: r))) := by
  refine h.imp fun D σ H ⟨φ, sl, L, hR, hS, hF⟩ => ?_
  simp only [execs, exec] at hF
  unfold frzSlot at hF
  split at hF
  · rename_i n hs
    split at hF
    · rename_i xs hL
      obtain ⟨q1, q2, q3⟩ := hR.kill hL (by intro z; cases z)
      simp only [RS.thn_nx] at hF
      refine ⟨φ, _, _, q1, ⟨by simp [hS.1], fun j y hy => ?_⟩, FinS.ext q2 hF⟩
      rw [List.getElem?_map] at hy
      cases hj : sl[j]? with
      | none => rw [hj] at hy; cases hy
      | some o =>
        rw [hj] at hy
        have old : ∀ z, o = some z → y = z → ∃ v, σ[j]? = some (some v) ∧ RV G pn φ (Own G φ (L.set n .dead)) H y v := fun z hz hyz => by
          subst hz hyz
          obtain ⟨v, v1, v2⟩ := hS.2 j y hj
          exact ⟨v, v1, RV.go q2 v2⟩
        cases o with
        | none => cases hy
        | some z =>
          cases z with
          | val d => cases hy; exact old _ rfl rfl
          | exn C fs => cases hy; exact old _ rfl rfl
          | ref m =>
            simp only [Option.map_some] at hy
            by_cases hm : m = n
            · subst hm
              rw [if_pos rfl] at hy
              cases hy
              obtain ⟨v, v1, v2⟩ := hS.2 j (.ref m) hj
              obtain ⟨a, vs, rfl, ha, hH, rs⟩ := RV.own hR v2 hL
              exact ⟨_, v1, a, vs, rfl, ⟨.inl hH, q3 a ha⟩, RDs.go q2.stp _ _ rs⟩
            · rw [if_neg hm] at hy
              cases hy
              exact old _ rfl rfl
    · exact hF.elim
  · exact hF.elim
end
end PI

set_option maxRecDepth 100000
set_option maxHeartbeats 1000000
namespace PI
open PySem PySem.Spec PyProof.Rows L2
section
variable {G : Gd} {T : Tb} {P : Prog} {k : Nat} {W : WX} {X : Cx}
theorem RV.more {pn pn' : Pn} {φ : List Addr} {O : Addr → Prop} {H : Hp} (hp : ∀ p ∈ pn, p ∈ pn') : ∀ {x : V2} {v : V}, RV G pn φ O H x v → RV G pn' φ O H x v
  | .val d, v, h => h
  | .ref n, v, h => h
  | .exn C fs, v, ⟨a, oe, dd, e, h1, h2⟩ => ⟨a, oe, dd, e, hp _ h1, h2⟩
theorem RSl.more {pn pn' : Pn} {φ : List Addr} {O : Addr → Prop} {H : Hp} {sl : SL} {σ : L2.St} (hp : ∀ p ∈ pn, p ∈ pn') (h : RSl G pn φ O H sl σ) : RSl G pn' φ O H sl σ :=
  ⟨h.1, fun i x q => let ⟨v, a, b⟩ := h.2 i x q; ⟨v, a, RV.more hp b⟩⟩
theorem RV.calm {pn : Pn} {φ : List Addr} {O : Addr → Prop} {H : Hp} {x : V2} {v : V} (h : RV G pn φ O H x v) (n : ∀ C fs, x ≠ .exn C fs) : RV G [] φ O H x v := by
  cases x with
  | val d => exact h
  | ref m => exact h
  | exn C fs => exact absurd rfl (n C fs)
/-- the name goes -/
theorem RSl.gone {pn : Pn} {φ : List Addr} {O : Addr → Prop} {H : Hp} {sl : SL} {σ : L2.St} (h : RSl G pn φ O H sl σ) (i : Nat) : RSl G [] φ O H ((sl.map noExn).set i none) (σ.set i none) := by
  refine ⟨by simp [h.1], fun j x q => ?_⟩
  by_cases hj : i = j
  · subst hj
    by_cases hl : i < (sl.map noExn).length
    · rw [List.getElem?_set_self hl] at q; cases q
    · rw [List.getElem?_eq_none (by simpa using hl)] at q; cases q
  · rw [List.getElem?_set_ne hj, List.getElem?_map] at q
    cases e : sl[j]? with
    | none => rw [e] at q; cases q
    | some o =>
      rw [e] at q
      cases o with
      | none => cases q
      | some y =>
        obtain ⟨v, a, b⟩ := h.2 j y e
        cases y with
        | exn C fs => cases q
        | val d => cases q; exact ⟨v, by rw [List.getElem?_set_ne hj]; exact a, b⟩
        | ref m => cases q; exact ⟨v, by rw [List.getElem?_set_ne hj]; exact a, b⟩
/-- the suite's ends -/
theorem goneS {pn : Pn} {φ : List Addr} {L : LH} {H : Hp} {D : Ends} {i : Nat} {r : RS} (h : FinS G [] W φ L H D (r.gone i)) :
    FinS G pn noWX φ L H { nx := fun σ' H' => D.nx (σ'.set i none) H', rt := D.rt, bk := fun σ' H' => D.bk (σ'.set i none) H', ct := fun σ' H' => D.ct (σ'.set i none) H' } r := by
  cases r with
  | nx sl L' => exact fun φ' σ' H' a b c => h φ' _ H' a b (c.gone i)
  | bk sl L' => exact fun φ' σ' H' a b c => h φ' _ H' a b (c.gone i)
  | ct sl L' => exact fun φ' σ' H' a b c => h φ' _ H' a b (c.gone i)
  | exc C fs sl L' => exact h.elim
  | stuck => exact h.elim
  | rt x L' =>
    cases x with
    | exn C fs => exact h.elim
    | val d => exact fun φ' v H' a b c => h φ' v H' a b (RV.calm c fun _ _ z => nomatch z)
    | ref m => exact fun φ' v H' a b c => h φ' v H' a b (RV.calm c fun _ _ z => nomatch z)
theorem Am.tr {pn : Pn} (A : Am G T P false k [] W X) {W' : WX} {pn' : List (Addr × Obj)} {xe : Value → Shared → Prop} (tk : L2N.Takes (X.tr pn' xe) W') : Am G T P false k [] W' (X.tr pn' xe) :=
  ⟨A.hK, A.ft, A.fn, A.fnH, A.room, A.calm, fun _ => rfl, (fun z => by cases z), (fun p hp => by cases hp), tk, A.nd⟩
theorem Am.suite (A : Am G T P false k [] W X) {a : Addr} {oe : Obj} {pn' : List (Addr × Obj)} {cls : Value} {d : Option Addr} (hz : L2N.Zn cls d oe) (hf : ∃ vs, oe.data = .fields vs) : Am G T P true k [(a, oe)] noWX (X.suite a ((a, oe) :: pn')) := by
  obtain ⟨vs, hv⟩ := hf
  refine ⟨A.hK, A.ft, A.fnH, A.fnH, ⟨A.room.dp, A.room.un⟩, (fun z => by cases z), (fun z => by cases z), fun _ => ⟨(a, oe), rfl, rfl, vs, hv, hz.2.2 vs hv⟩, fun p hp => ?_, fun u s' ⟨a, B, sI, pins, σ, H, cls, d, e, I, nb, up, sky, na, os, ag, w⟩ => w.elim, A.nd⟩
  rw [List.mem_singleton.mp hp]
  exact List.mem_cons_self ..
/-- try: b, except C as i: h -/
theorem snd_try (A : Am G T P false k [] W X) (hs : X.stack = X.env :: X.outer) (hfr : X.env.frame = some X.env.locals) {b h : List IS} {C i : Nat} {x n : Str} {body suite : List Stmt} {s0 : Stmt} {np pos pos' : Pos} (hx : x = T.nm C) (hC : C ∈ T.cls) (hl : X.env.scope.names.lookup x = some .globalImplicit) (hd : dbgB x = false) (hi : X.N[i]? = some n) (hln : X.env.scope.names.lookup n = some .local)
    (hb : ∀ (W' : WX) (pn' : List (Addr × Obj)) (xe : Value → Shared → Prop), Am G T P false k [] W' (X.tr pn' xe) → PassesOwn (model X.prog X.w) X.A X.env xe → PSs (X.tr pn' xe) body (rdS G [] W' (execs (cl P false k) b)))
    (hh : ∀ (a : Addr) (oe : Obj) (pn' : List (Addr × Obj)), Am G T P true k [(a, oe)] noWX (X.suite a ((a, oe) :: pn')) → PSs (X.suite a ((a, oe) :: pn')) (s0 :: suite) (rdS G [(a, oe)] noWX (execs (cl P true k) h))) :
    PS X (.Try body [.ExceptHandler (some (.Name x np)) (some n) (s0 :: suite) pos'] [] [] pos) (rdS G [] W (exec (cl P false k) (.try_ b C i h))) := by
  subst hx
  refine (L2N.ps_try_as (X := X) (i := i) (c := .ref (G.cn C)) (tb := fun W' => rdS G [] W' (execs (cl P false k) b)) (Wout := W)
    (ts := fun a cls d D σ H => ∀ oe, L2N.Zn cls d oe → (∃ vs, oe.data = .fields vs) → rdS G [(a, oe)] noWX (execs (cl P true k) h) D σ H)
    hs hfr A.nd hi hln ⟨hl, hd, .inl (A.ft.cls C hC)⟩ A.tk (fun W' pn' xe tk po => hb W' pn' xe (A.tr (pn := []) tk) po) (fun a oe cls d pn' hz hf => (hh a oe pn' (A.suite hz hf)).imp fun D σ H q => q oe hz hf)).imp fun D σ H ⟨φ, sl, L, hR, hS, hF⟩ => ⟨φ, sl, L, hR, hS, ?_⟩
  simp only [exec, cl, Bool.false_eq_true, if_false] at hF
  cases e : execs (cl P false k) b sl L with
  | nx s1 L1 => simp only [cl] at e; rw [e] at hF; exact hF
  | rt v L1 => simp only [cl] at e; rw [e] at hF; exact hF
  | bk s1 L1 => simp only [cl] at e; rw [e] at hF; exact hF
  | ct s1 L1 => simp only [cl] at e; rw [e] at hF; exact hF
  | stuck => simp only [cl] at e; rw [e] at hF; exact hF
  | exc E fs s1 L1 =>
    simp only [cl] at e
    rw [e] at hF
    simp only [RS.tried] at hF
    cases hsub : P.sub E C with
    | none => rw [hsub] at hF; exact hF.elim
    | some b0 =>
      rw [hsub] at hF
      intro φ' σ' H' h1 e1 r1 cls d rx
      obtain ⟨hcls, hd'⟩ := rx
      subst hcls
      refine ⟨b0, by rw [A.hK]; exact A.ft.sub E C b0 hsub, fun hb0 a na oe hz hf => ?_, fun hb0 => ?_⟩
      · subst hb0
        refine ⟨φ', s1.set i (some (.exn E fs)), L1, h1, ?_, FinS.ext e1 (goneS hF)⟩
        refine RSl.set (RSl.more (fun p hp => by cases hp) r1) i ⟨a, oe, d, rfl, List.mem_singleton.mpr rfl, hz.zc, hf, ?_⟩
        rcases hd' with ⟨dd, gs, q1, q2, q3⟩ | q
        · exact .inl ⟨dd, gs, q1, q2, q3⟩
        · exact .inr q
      · subst hb0
        exact hF φ' σ' H' h1 e1 r1 _ d ⟨rfl, hd'⟩
end
end PI

set_option maxRecDepth 100000
set_option maxHeartbeats 1000000
namespace PI
open PySem PySem.Spec PyProof.Rows L2
section
variable {G : Gd} {T : Tb} {P : Prog} {hot : Bool} {k : Nat} {pn : Pn} {W : WX} {X : Cx}
theorem comp_shape {ir : IE} {sc : Scope} {N : List Str} {e : Expr} {gs : List Comprehension} {scope : Scope} {p : Pos} (h : okE T ir sc N (.ListComp e gs scope p) = true) : ∃ own elt tg k it ts, ir = .comp own elt tg k it ts := by
  cases ir <;> first | exact ff h | exact ⟨_, _, _, _, _, _, rfl⟩
/-- name = [..] -/
theorem snd_setC (A : Am G T P hot k pn W X) {i : Nat} {y : Str} {py spos : Pos} {ir : IE} {e : Expr} {gs : List Comprehension} {scope : Scope} {p : Pos} (hi : X.N[i]? = some y) (hl : X.env.scope.names.lookup y = some .local) (h : okE T ir X.env.scope X.N (.ListComp e gs scope p) = true) (hc : compB (.Name y py) (.ListComp e gs scope p) = true) :
    PS X (.Assign [.Name y py] (.ListComp e gs scope p) spos) (rdS G pn W (exec (cl P hot k) (.set i ir))) := by
  obtain ⟨own, elt, tg, ik, it, ts, rfl⟩ := comp_shape h
  obtain ⟨e', t, i', ifs, scope', p', xs, he, h1, h2, h3, h4, h5, h6, h7, h8, h9⟩ := okE_comp h
  injection he with e1 e2 e3 e4
  subst e1 e2 e3 e4
  cases hh : hot with
  | true => exact ⟨fun pins s σ H D I ⟨φ, sl, L, hR, hS, hF⟩ => by simp [exec, ev, cl, FinS] at hF⟩
  | false =>
    have hp : pn = [] := A.pn0 hh
    subst hp
    have hw : L2.PI X t i' (rdI G [] W ik (evs (cl P hot k) it)) := walk_of A h3 h4 (sndEs it A h4) (sndH it A)
    have ht := fun (B : Addr → Prop) (s : Shared) (H : Hp) (C : Addr) (cl' : List (Str × Addr)) (fp : List Addr) => sndTs ts (A.blk hh B s H scope C cl' fp) h5 h6
    have hee := fun (B : Addr → Prop) (s : Shared) (H : Hp) (C : Addr) (cl' : List (Str × Addr)) (fp : List Addr) => (sndE elt (A.blk hh B s H scope C cl' fp) h7).1
    subst hh
    refine ⟨fun pins s σ H D I hq => (set_comp A.hK (A.calm rfl) A.nd (n := i) (own := own) rfl hi hl (sw_true I.ok.kind hl (a1 hc) (nt (a2 hc))) hw h1 h2 h8 ht hee).run pins s σ H D I ?_⟩
    exact ss_set rfl (fun σ H Q q => comp_rd (own := own) A.hK rfl q) (by simpa only [exec] using hq)
theorem snd_hotF {c : Cl} {tg : ITg} {ik : IK} {it : List IE} {b : List IS} {x : Stmt} (h : c.hot = true) : PS X x (rdS G pn W (exec c (.for_ tg ik it b))) :=
  ⟨fun pins s σ H D I ⟨φ, sl, L, hR, hS, hF⟩ => by simp [exec, h, FinS] at hF⟩
theorem fld_rd {nm : Nat → Str} {O : Addr → Prop} {H : Hp} (hnm : G.nm = nm) {ds : List PI.D} {vs : List V} (r : RDs G O H ds vs) : ∀ {l : List (Nat × Nat)} {acc : List (Nat × PI.D)} {acc' : List (Str × V)}, (∀ p ∈ l, 0 < p.2 ∧ p.2 ≤ ds.length) → RDf G O H acc acc' → RDf G O H (fldD ds l acc) (fldF (.non :: vs) (l.map fun p => (nm p.1, p.2)) acc')
  | [], _, _, _, h => h
  | (f, i) :: l, acc, acc', hl, h => by
    obtain ⟨h0, h1⟩ := hl (f, i) (List.mem_cons_self ..)
    obtain ⟨j, rfl⟩ : ∃ j, i = j + 1 := ⟨i - 1, by omega⟩
    have hj : j < ds.length := by simp at h1; omega
    obtain ⟨v, hv, rv⟩ := r.get (List.getElem?_eq_getElem hj)
    have e1 : ds.getD (j + 1 - 1) .non = ds[j] := by simp [List.getD_eq_getElem?_getD, hj]
    have e2 : (V.non :: vs).getD (j + 1) .non = v := by simp [List.getD_eq_getElem?_getD, hv]
    show RDf G O H (fldD ds l ((f, ds.getD (j + 1 - 1) .non) :: acc)) (fldF (.non :: vs) (l.map fun p => (nm p.1, p.2)) ((nm f, (V.non :: vs).getD (j + 1) .non) :: acc'))
    rw [e1, e2]
    exact fld_rd hnm r (fun p hp => hl p (List.mem_cons_of_mem _ hp)) ⟨v, acc', by rw [hnm], rv, h⟩
/-- raise C(..) -/
theorem snd_raise (A : Am G T P hot k pn W X) {C : Nat} {es : List IE} {x : Str} {args : List Expr} {p cp pos : Pos} (hx : x = T.nm C) (hC : C ∈ T.excs) (hl : X.env.scope.names.lookup x = some .globalImplicit) (hd : dbgB x = false) (ok : okEs T es X.env.scope X.N args = true) (hne : args ≠ []) (hn : args.length ≤ 1000)
    (ha : PA X args (rdA G pn W (evs (cl P hot k) es))) : PS X (.Raise (some (.Call (.Name x p) args [] cp)) none pos) (rdS G pn W (exec (cl P hot k) (.raise C es))) := by
  cases hh : hot with
  | true => exact ⟨fun pins s σ H D I ⟨φ, sl, L, hR, hS, hF⟩ => by simp [exec, cl, FinS] at hF⟩
  | false =>
    subst hh
    cases he : P.exc C with
    | none => exact ⟨fun pins s σ H D I ⟨φ, sl, L, hR, hS, hF⟩ => by simp [exec, cl, he, FinS] at hF⟩
    | some nl =>
      obtain ⟨n, l⟩ := nl
      obtain ⟨fI, fd, ps, q1, q2, q3, q4, q5, q6, q7, q8, q9⟩ := A.ft.exc C hC n l he
      rw [← A.hK] at q2 q3 q4 q5 q6 q8
      cases args with
      | nil => exact absurd rfl hne
      | cons e r =>
        have hs : notStar e = true := by
          cases es with
          | nil => exact ff ok
          | cons _ _ => exact a2 (a1 ok)
        have hpl : ∀ pos, (backTo pos (starEach r X.env)).any (·.1) = false := fun pos => by
          have := okEs_star (env := X.env) ok pos
          rw [star_of hs] at this
          exact this
        refine ⟨fun pins s σ0 H0 D0 I0 hq0 => PS.run (t := rdS G pn W (exec (cl P false k) (.raise C es))) ?_ pins s σ0 H0 D0 I0 hq0⟩
        have room : Room (1 + 1) X.A := ⟨I0.ok.hd (A.calm rfl), by have := A.room.dp; omega, by have := A.room.un; omega⟩
        subst hx
        have mk := pmk_store (X := X) (p := p) (pos := cp) q2 q3 q4 (q5 X.prog X.w X.base) (fun p hp => by
          obtain ⟨z, hz, rfl⟩ := List.mem_map.mp hp
          exact q6 z hz) (fun p hp => by
          obtain ⟨z, hz, rfl⟩ := List.mem_map.mp hp
          exact (q7 z hz).1) room q8 hl q1 ha hd (star_of hs) (hpl cp)
        refine (L2N.ps_raise (A.calm rfl) A.tk mk).imp fun D σ H ⟨φ, sl, L, hR, hS, hF⟩ => ?_
        simp only [exec, cl, he, Bool.false_eq_true, if_false] at hF
        refine (rdA_len (c := cl P false k) (es := es) ⟨φ, sl, L, hR, hS, (stE (Rel := RelVs G pn) hR hS hF)⟩).mono fun vs H1 ⟨hl1, φ1, L1, xs, hR1, e1, r1, hS1, hF1⟩ => ?_
        cases hd2 : dats xs with
        | none => rw [hd2] at hF1; exact hF1.elim
        | some ds =>
          rw [hd2] at hF1
          have rs := dats_rv hd2 r1
          by_cases hlen : ds.length = n
          · simp only [hlen, if_true] at hF1
            refine ⟨by rw [hl1, okEs_len ok]; exact hn, by rw [← rs.len, hlen, q9], fun d hd3 => ?_⟩
            obtain ⟨h3, e3⟩ := hR1.lay hd3 (.xd (fldF (.non :: vs) (l.map fun p => (T.nm p.1, p.2)) []))
            refine hF1 φ1 σ _ h3 e3 (hS1.go e3) _ _ ⟨rfl, .inl ⟨d, _, rfl, ⟨upd_same, hR1.notOwn hd3⟩, ?_⟩⟩
            exact RDf.go e3.stp _ _ (fld_rd A.ft.nm rs (fun p hp => by rw [hlen]; exact q7 p hp) rfl)
          · simp only [hlen, if_false] at hF1
            exact hF1.elim
end
variable {T : Tb} {P : Prog} {k : Nat}
mutual
theorem sndS : ∀ (is : IS) {hot : Bool} {G : Gd} {pn : Pn} {W : WX} {X : Cx} (A : Am G T P hot k pn W X) (po : PassesOwn (model X.prog X.w) X.A X.env X.xe) (sk : X.stack = X.env :: X.outer ∧ X.env.frame = some X.env.locals) (fT : ∀ y, X.fn y = true) {x : Stmt}, okS T is X.env.scope X.N x = true → PS X x (rdS G pn W (exec (cl P hot k) is))
  | .set i e, hot, G, pn, W, X, A, po, sk, fT, x, h => by
    cases x <;> first | exact ff h | skip
    rename_i ts v pos
    match ts, h with
    | [], h => exact ff h
    | _ :: _ :: _, h => exact ff h
    | [t], h =>
      have hn := a1 (a1 h)
      have he := a2 (a1 h)
      have hc := a2 h
      cases t <;> first | exact ff hn | skip
      rename_i y py
      obtain ⟨e1, e2⟩ := nm_ok hn
      by_cases hcc : notComp v = true
      · exact snd_set A.nd e1 (e2.imp id fun z => z.2) (fT y) hcc (sndE e A he).1
      · rw [Bool.or_eq_true] at hc
        have hc := hc.resolve_left hcc
        have hl := (nm_ok (a2 hc)).2.resolve_right fun z => by cases z.1
        have hc := a1 hc
        cases v <;> first | exact ff hc | skip
        exact snd_setC A e1 hl he hc
  | .unp is e, hot, G, pn, W, X, A, po, sk, fT, x, h => by
    cases x <;> first | exact ff h | skip
    rename_i ts v pos
    match ts, h with
    | [], h => exact ff h
    | _ :: _ :: _, h => exact ff h
    | [t], h => exact snd_unp A.nd A.hK A.calm fT (a1 (a1 (a1 h))) (a2 (a1 h)) (a2 h) (sndE e A (a2 (a1 (a1 h)))).1
  | .put o i e, hot, G, pn, W, X, A, po, sk, fT, x, h => by
    cases x <;> first | exact ff h | skip
    rename_i ts v pos
    cases ts with
    | nil => exact ff h
    | cons t r =>
      cases r with
      | cons _ _ => cases t <;> exact ff h
      | nil =>
        cases t <;> first | exact ff h | skip
        exact snd_put A.un (a2 (a1 h)) (a2 h) (sndE e A (a1 (a1 (a1 (a1 h))))).1 (sndE o A (a2 (a1 (a1 (a1 h))))).1 (sndE i A (a2 (a1 (a1 h)))).1
  | .ex e, hot, G, pn, W, X, A, po, sk, fT, x, h => by
    cases x <;> first | exact ff h | skip
    exact snd_ex (a2 h) (sndE e A (a1 h)).1
  | .ret none, hot, G, pn, W, X, A, po, sk, fT, x, h => by
    cases x <;> first | exact ff h | skip
    rename_i v pos
    cases v with
    | none => exact snd_retN
    | some _ => exact ff h
  | .ret (some e), hot, G, pn, W, X, A, po, sk, fT, x, h => by
    cases x <;> first | exact ff h | skip
    rename_i v pos
    cases v with
    | none => exact ff h
    | some _ => exact snd_ret (sndE e A h).1
  | .ife t a b, hot, G, pn, W, X, A, po, sk, fT, x, h => by
    cases x <;> first | exact ff h | skip
    exact snd_ifS (sndE t A (a1 (a1 h))).2 (sndB a A po sk fT (a2 (a1 h))) (sndB b A po sk fT (a2 h))
  | .for_ tg ik it b, hot, G, pn, W, X, A, po, sk, fT, x, h => by
    cases x <;> first | exact ff h | skip
    rename_i t i body els pos
    cases els with
    | cons _ _ => exact ff h
    | nil =>
      cases hh : hot with
      | true => exact snd_hotF rfl
      | false =>
        have h3 := a2 (a1 (a1 h))
        cases hit : itArgs T X.env.scope ik i with
        | none => rw [hit] at h3; exact ff h3
        | some xs =>
          rw [hit] at h3
          have hb := sndB b A po sk fT (a2 (a1 h))
          have hw : L2.PI X t i (rdI G pn W ik (evs (cl P hot k) it)) := walk_of A hit h3 (sndEs it A h3) (sndH it A)
          subst hh
          exact snd_for A.hK A.nd (A.calm rfl) rfl po fT (a1 (a1 (a1 h))) (a2 h) hw hb
  | .whl t b, hot, G, pn, W, X, A, po, sk, fT, x, h => by
    cases x <;> first | exact ff h | skip
    rename_i t' body els pos
    cases els with
    | cons _ _ => exact ff h
    | nil => exact snd_whl po (sndE t A (a1 h)).2 (sndB b A po sk fT (a2 h))
  | .pass, hot, G, pn, W, X, A, po, sk, fT, x, h => by
    cases x <;> first | exact ff h | skip
    · rename_i e pos
      cases e <;> first | exact ff h | skip
      rename_i k j p
      cases k <;> first | exact ff h | exact snd_doc
    · exact snd_pass
  | .brk, hot, G, pn, W, X, A, po, sk, fT, x, h => by
    cases x <;> first | exact ff h | exact snd_brk
  | .cont, hot, G, pn, W, X, A, po, sk, fT, x, h => by
    cases x <;> first | exact ff h | exact snd_cont
  | .raise C es, hot, G, pn, W, X, A, po, sk, fT, x, h => by
    cases x <;> first | exact ff h | skip
    rename_i v cs pos
    match v, cs, h with
    | some (.Call (.Name x p) args [] cp), none, h => exact snd_raise A (of_decide_eq_true (a1 (a1 (a1 (a1 (a1 (a1 h))))))) (by simpa using a2 (a1 (a1 (a1 (a1 (a1 h)))))) (glB_ok (a2 (a1 (a1 (a1 (a1 h)))))) (nt (a2 (a1 (a1 (a1 h))))) (a2 (a1 (a1 h))) (fun z => by subst z; exact ff (a2 (a1 h))) (of_decide_eq_true (a2 h)) (sndEs es A (a2 (a1 (a1 h))))
  | .aug i op e, hot, G, pn, W, X, A, po, sk, fT, x, h => by
    cases x <;> first | exact ff h | skip
    rename_i t o v pos
    have hn := a1 (a1 (a1 h))
    have hop : o = op.py := of_decide_eq_true (a2 (a1 (a1 h)))
    have ho := a2 (a1 h)
    rw [Bool.or_eq_true, decide_eq_true_eq, decide_eq_true_eq] at ho
    cases t <;> first | exact ff hn | skip
    obtain ⟨e1, e2⟩ := nm_ok hn
    subst hop
    exact snd_aug A.nd e1 (e2.imp id fun z => z.2) (fT _) ho (sndE e A (a2 h)).1
  | .try_ b C i hd, hot, G, pn, W, X, A, po, sk, fT, x, h => by
    cases x <;> first | exact ff h | skip
    rename_i body hds els fin pos
    match hds, els, fin, h with
    | [.ExceptHandler (some (.Name x np)) (some n) (s0 :: suite) pos'], [], [], h =>
      cases hh : hot with
      | true => exact ⟨fun pins s σ H D I ⟨φ, sl, L, hR, hS, hF⟩ => by simp [exec, cl, FinS] at hF⟩
      | false =>
        subst hh
        have hp : pn = [] := A.pn0 rfl
        subst hp
        have h1 := a1 h
        have h2 := a1 h1
        have h3 := a1 h2
        have h4 := a1 h3
        have h5 := a1 h4
        have h6 := a1 h5
        exact snd_try A sk.1 sk.2 (of_decide_eq_true (a2 h5)) (by simpa using a2 h4) (glB_ok (a2 h3)) (nt (a2 h2)) (of_decide_eq_true (a2 h1)) (locB_ok (a2 h))
          (fun W' pn' xe A' po' => sndB b A' po' sk fT (a1 h6))
          (fun a oe pn' A' => sndB hd A' PassesOwn.never sk fT (a2 h6))
  | .frz i, hot, G, pn, W, X, A, po, sk, fT, x, h => by
    cases x <;> exact ff h
theorem sndB : ∀ (is : List IS) {hot : Bool} {G : Gd} {pn : Pn} {W : WX} {X : Cx} (A : Am G T P hot k pn W X) (po : PassesOwn (model X.prog X.w) X.A X.env X.xe) (sk : X.stack = X.env :: X.outer ∧ X.env.frame = some X.env.locals) (fT : ∀ y, X.fn y = true) {xs : List Stmt}, okB T is X.env.scope X.N xs = true → PSs X xs (rdS G pn W (execs (cl P hot k) is))
  | [], hot, G, pn, W, X, A, po, sk, fT, [], h => pss_nil.imp fun D σ H ⟨φ, sl, L, hR, hS, hF⟩ => by
    simp only [execs] at hF
    exact hF φ σ H hR (Ext.refl _ _ _ _) hS
  | [], hot, G, pn, W, X, A, po, sk, fT, _ :: _, h => ff h
  | s :: r, hot, G, pn, W, X, A, po, sk, fT, xs, h => by
    have go : ∀ x ys, xs = x :: ys → okS T s X.env.scope X.N x = true → okB T r X.env.scope X.N ys = true → PSs X xs (rdS G pn W (execs (cl P hot k) (s :: r))) := fun x ys hx h1 h2 => by
      subst hx
      refine (pss_cons (sndS s A po sk fT h1) (sndB r A po sk fT h2)).imp fun D σ H ⟨φ, sl, L, hR, hS, hF⟩ => ?_
      simp only [execs] at hF
      exact ⟨φ, sl, L, hR, hS, seqS hF⟩
    cases s with
    | frz i => exact snd_frz (sndB r A po sk fT h)
    | _ =>
      cases xs with
      | nil => exact ff h
      | cons x ys => exact go x ys rfl (a1 h) (a2 h)
end
end PI

set_option maxRecDepth 100000
set_option maxHeartbeats 1000000
namespace PI
open PySem PySem.Spec PyProof.Rows L2

section
variable {G : Gd} {φ : List Addr} {L : LH} {H : Hp}
/-- the answer's object stays, a def's others go -/
theorem HR.keep1 (h : HR G φ L H) {n n0 : Nat} {o : LO} {a : Addr} (ho : L[n]? = some o) (hd : o ≠ .dead) (ha : φ[n]? = some a) (hn : n0 ≤ n) (hl : n0 ≤ L.length) :
    HR G (φ.take n0 ++ [a]) (L.take n0 ++ [o]) H ∧ Stp (Own G φ L) H (Own G (φ.take n0 ++ [a]) (L.take n0 ++ [o])) H ∧ (φ.take n0 ++ [a])[n0]? = some a := by
  have lt : (L.take n0).length = n0 := by rw [List.length_take]; omega
  have lp : (φ.take n0).length = n0 := by rw [List.length_take, h.len]; omega
  have old : ∀ {i : Nat} {u : LO} {b : Addr}, (L.take n0 ++ [o])[i]? = some u → (φ.take n0 ++ [a])[i]? = some b → (i < n0 ∧ L[i]? = some u ∧ φ[i]? = some b) ∨ (i = n0 ∧ u = o ∧ b = a) := fun {i u b} e1 e3 => by
    by_cases hi : i < n0
    · rw [List.getElem?_append_left (by omega), List.getElem?_take_of_lt hi] at e1
      rw [List.getElem?_append_left (by omega), List.getElem?_take_of_lt hi] at e3
      exact .inl ⟨hi, e1, e3⟩
    · rw [List.getElem?_append_right (by omega), lt] at e1
      rw [List.getElem?_append_right (by omega), lp] at e3
      have hi' : i - n0 = 0 := by
        have := (List.getElem?_eq_some_iff.mp e1).1
        simp at this
        omega
      rw [hi'] at e1 e3
      simp at e1 e3
      exact .inr ⟨by omega, e1.symm, e3.symm⟩
  have ow : ∀ b, OwnL (φ.take n0 ++ [a]) (L.take n0 ++ [o]) b → OwnL φ L b := fun b ⟨i, u, q1, q2, q3⟩ => by
    rcases old q1 q3 with ⟨_, p1, p2⟩ | ⟨_, rfl, rfl⟩
    · exact ⟨i, u, p1, q2, p2⟩
    · exact ⟨n, u, ho, hd, ha⟩
  have s : Stp (Own G φ L) H (Own G (φ.take n0 ++ [a]) (L.take n0 ++ [o])) H := ⟨fun _ _ e _ => e, fun b z => .inl (z.imp (ow b) id)⟩
  refine ⟨⟨by simp [lt, lp], fun i u b e1 e2 => ?_, fun i j u w b e1 d1 e2 d2 e3 e4 => ?_, fun b z => ⟨(h.res b z).1, fun q => (h.res b z).2 (ow b q)⟩⟩, s, by rw [List.getElem?_append_right (by omega), lp]; simp⟩
  · rcases old e1 e2 with ⟨_, p1, p2⟩ | ⟨_, rfl, rfl⟩
    · exact RO.go' s rfl (h.at_ i u b p1 p2)
    · exact RO.go' s rfl (h.at_ n u b ho ha)
  · rcases old e1 e3 with ⟨p0, p1, p2⟩ | ⟨p1, rfl, rfl⟩
    · rcases old e2 e4 with ⟨q0, q1, q2⟩ | ⟨q1, rfl, rfl⟩
      · exact h.inj i j u w b p1 d1 q1 d2 p2 q2
      · have := h.inj i n u w b p1 d1 ho hd p2 ha
        omega
    · rcases old e2 e4 with ⟨q0, q1, q2⟩ | ⟨q1, _, _⟩
      · have := h.inj n j u w b ho hd q1 d2 ha q2
        omega
      · omega
theorem RXe.go {O O1 : Addr → Prop} {H1 : Hp} (s : Stp O H O1 H1) {C : Nat} {fs : List (Nat × D)} {cls : Value} {d : Option Addr} (h : RXe G O H C fs cls d) : RXe G O1 H1 C fs cls d := by
  obtain ⟨h1, h2⟩ := h
  refine ⟨h1, ?_⟩
  rcases h2 with ⟨dd, gs, e, ⟨t, n⟩, r⟩ | h2
  · exact .inl ⟨dd, gs, e, ⟨s.keep dd _ t n, s.no t n⟩, RDf.go s fs gs r⟩
  · exact .inr h2
/-- a def's end -/
theorem fin_body {pn : Pn} {E : XK} {Q : VK} {r : RS} (hR : HR G φ L H) (h : Fin G (RelV2 G pn) (WCx G E) φ L H Q (r.fin L.length)) : FinS G pn (fun cls d _ H => E cls d H) φ L H { nx := fun _ H' => Q .non H', rt := Q } r := by
  have tr : ∀ {φ' : List Addr} {L' : LH} {H' : Hp}, HR G φ' L' H' → Ext G φ L H φ' L' H' → HR G (φ'.take L.length) (L'.take L.length) H' ∧ Ext G φ L H (φ'.take L.length) (L'.take L.length) H' ∧ Stp (Own G φ' L') H' (Own G (φ'.take L.length) (L'.take L.length)) H' := fun {φ' L' H'} h1 e1 => by
    obtain ⟨t1, t2⟩ := h1.trunc L.length
    exact ⟨t1, ⟨e1.stp.trans t2, take_pre (List.prefix_refl _) e1.pre hR.len, e1.held⟩, t2⟩
  cases r with
  | nx sl L' =>
    intro φ' σ' H' h1 e1 r1
    obtain ⟨t1, t2, t3⟩ := tr h1 e1
    exact h _ .non H' t1 t2 rfl
  | bk sl L' => exact h.elim
  | ct sl L' => exact h.elim
  | stuck => exact h.elim
  | exc C fs sl L' =>
    intro φ' σ' H' h1 e1 r1 cls d rx
    obtain ⟨t1, t2, t3⟩ := tr h1 e1
    exact h _ H' t1 t2 cls d (rx.go t3)
  | rt x L' =>
    intro φ' v H' h1 e1 r1
    obtain ⟨t1, t2, t3⟩ := tr h1 e1
    cases x with
    | val d => exact h _ v H' t1 t2 (RD.go t3 d v r1)
    | exn C fs => exact h.elim
    | ref n =>
      obtain ⟨a, rfl, ha⟩ := r1
      simp only [RS.fin, retV] at h
      by_cases hn : n < L.length
      · rw [if_pos hn] at h
        exact h _ _ H' t1 t2 ⟨a, rfl, by rw [List.getElem?_take_of_lt hn]; exact ha⟩
      · rw [if_neg hn] at h
        cases ho : L'[n]? with
        | none => rw [ho] at h; exact h.elim
        | some o =>
          rw [ho] at h
          by_cases hd : o = .dead
          · subst hd; exact h.elim
          · have hl' : L.length ≤ L'.length := by
              have := e1.pre.length_le
              rw [hR.len, h1.len] at this
              exact this
            obtain ⟨k1, k2, k3⟩ := h1.keep1 ho hd ha (by omega) hl'
            have h : Fin G (RelV2 G pn) (WCx G E) φ L H Q (.ok (.ref L.length) (L'.take L.length ++ [o])) := by
              cases o <;> first | exact absurd rfl hd | exact h
            exact h _ _ H' k1 ⟨e1.stp.trans k2, (take_pre (List.prefix_refl _) e1.pre hR.len).trans (List.prefix_append _ _), e1.held⟩ ⟨a, rfl, k3⟩
end

theorem rvs_at {G : Gd} {pn : Pn} {φ : List Addr} {O : Addr → Prop} {H : Hp} : ∀ {xs : List V2} {vs : List V}, RVs G pn φ O H xs vs → ∀ {i : Nat} {x : V2} {v : V}, xs[i]? = some x → vs[i]? = some v → RV G pn φ O H x v
  | [], _, _, i, x, v, h, _ => by simp at h
  | y :: xs, vs, h, i, x, v, h1, h2 => by
    obtain ⟨w, q, rfl, a, b⟩ := h
    cases i with
    | zero => cases h1; cases h2; exact a
    | succ i => exact rvs_at b (i := i) (by simpa using h1) (by simpa using h2)
section
variable {G : Gd} {T : Tb} {Pg : Prog} {P : Program} {w : World} {mg : Str → Option Value} {base : Heap} {k fi : Nat} {N ps : List Str} {F : Fn}
/-- the names' values at the entry -/
theorem rsl_start {pn : Pn} {φ : List Addr} {O : Addr → Prop} {H : Hp} {xs : List V2} {vs : List V} (hN : N.length = F.slots) (r : RVs G pn φ O H xs vs) : RSl G pn φ O H (xs.map some ++ List.replicate (F.slots - xs.length) none) (L2.start N vs) := by
  have hl : vs.length = xs.length := RVs.len r
  unfold L2.start
  refine ⟨by simp [hl, hN], fun i y hy => ?_⟩
  by_cases hi : i < xs.length
  · rw [List.getElem?_append_left (by simpa using hi), List.getElem?_map] at hy
    have hv : i < vs.length := by omega
    rw [List.getElem?_append_left (by simpa using hv), List.getElem?_map, List.getElem?_eq_getElem hv]
    rw [List.getElem?_eq_getElem hi] at hy
    obtain rfl : xs[i] = y := by simpa using hy
    exact ⟨vs[i], rfl, rvs_at r (List.getElem?_eq_getElem hi) (List.getElem?_eq_getElem hv)⟩
  · rw [List.getElem?_append_right (by simpa using hi), List.getElem?_replicate] at hy
    split at hy <;> cases hy
/-- what is wanted, as a promise of the layer -/
def spG (G : Gd) (pn : Option (Addr × Obj)) (n : Nat) (c : List V2 → LH → R V2) : Sp := fun vs H Q E => vs.length = n ∧ ∃ (B : Addr → Prop) (φ : List Addr) (L : LH) (xs : List V2), HR (G.at B) φ L H ∧ RVs (G.at B) pn.toList φ (Own (G.at B) φ L) H xs vs ∧ Fin (G.at B) (RelV2 (G.at B) pn.toList) (WCx (G.at B) E) φ L H Q (c xs L)
/-- the body's reading -/
theorem body_of {X : Cx} {hot : Bool} {pn : Pn} {B : Addr → Prop} {H : Hp} {vs : List V} {xs : List V2} {φ : List Addr} {L : LH} {Q : VK} {E : XK} {body : List Stmt} (A : Am (G.at B) T Pg hot k pn (fun cls d _ H => E cls d H) X) (po : PassesOwn (model X.prog X.w) X.A X.env X.xe) (sk : X.stack = X.env :: X.outer ∧ X.env.frame = some X.env.locals) (fT : ∀ y, X.fn y = true)
    (hF : Pg.fn fi = some F) (hps : vs.length = F.norm.length + F.kwo.length) (hN : N.length = F.slots) (hX : X.N = N) (hb : okB T F.body X.env.scope X.N body = true) (hR : HR (G.at B) φ L H) (r : RVs (G.at B) pn φ (Own (G.at B) φ L) H xs vs)
    (f : Fin (G.at B) (RelV2 (G.at B) pn) (WCx (G.at B) E) φ L H Q (call Pg hot (k + 1) fi xs L)) : ∃ t, PSs X body t ∧ t { nx := fun _ H' => Q .non H', rt := Q } (L2.start N vs) H := by
  refine ⟨_, sndB F.body A po sk fT hb, φ, _, L, hR, rsl_start hN r, fin_body hR ?_⟩
  simp only [call, hF, runF] at f
  rw [if_pos (by rw [← RVs.len r]; exact hps)] at f
  exact f
theorem fnG_of {hot : Bool} {f : Addr} {name qual : Str} {params : Arguments} {body : List Stmt} {scope : Scope} {dV kV doc pm cdv ct oc : Value} {an od : Option Addr} {osl : Array (Option Value)}
    (lk : G.K.lookup f = some ⟨oc, od, .func (PySem.W.fnOf name qual params body scope dV kV doc pm an cdv ct), osl⟩) (hcd : PySem.W.codeIn G.K cdv qual = true) (S : FnScope N ps scope)
    (hF : Pg.fn fi = some F) (hps : ps.length = F.norm.length + F.kwo.length) (hN : N.length = F.slots) (hb : okB T F.body scope N body = true) (ft : Ft G T Pg mg) (fns : FnsOk G T Pg P w mg base hot k) (fnsH : FnsOk G T Pg P w mg base true k) :
    FnG G P w mg base hot (k + 1) f (PySem.W.fnOf name qual params body scope dV kV doc pm an cdv ct) ps (call Pg hot (k + 1) fi) := by
  have ft' : ∀ B : Addr → Prop, Ft (G.at B) T Pg mg := fun B => ⟨ft.nm, ft.free, ft.glob, ft.kit, ft.own, ft.ownE, ft.sub, ft.xf, ft.cls, ft.exc, ft.fns⟩
  have fns' : ∀ B : Addr → Prop, FnsOk (G.at B) T Pg P w mg base hot k := fun B f' hf' fA e => let ⟨fd, ps, b, g⟩ := fns f' hf' fA e; ⟨fd, ps, b, ⟨g.run⟩⟩
  have fnsH' : ∀ B : Addr → Prop, FnsOk (G.at B) T Pg P w mg base true k := fun B f' hf' fA e => let ⟨fd, ps, b, g⟩ := fnsH f' hf' fA e; ⟨fd, ps, b, ⟨g.run⟩⟩
  cases hot with
  | false =>
    have Fo : FnOk P w G.K mg base (L2N.CX P w) (k + 3) f (PySem.W.fnOf name qual params body scope dV kV doc pm an cdv ct) ps (spG G none ps.length (call Pg false (k + 1) fi)) := by
      refine L2.fn_of lk hcd S (fun vs H Q E q => q.1) fun A outer s H vs Q E hr ⟨hl, B, φ, L, xs, hR, r, hf⟩ => ?_
      refine body_of (hot := false) (B := B) (E := E) (xs := xs) (fi := fi) (F := F) (N := N) ⟨rfl, ft' B, fns' B, fnsH' B, L2H.roomH_of hr, fun _ => rfl, fun _ => rfl, (fun z => by cases z), (fun p hp => by cases hp), L2N.takes_of rfl rfl rfl rfl, S.nd⟩ (passes_of rfl) ⟨rfl, rfl⟩ (fun _ => rfl) hF (hl.trans hps) hN rfl hb hR r hf
    refine ⟨fun B pn A outer s H args us vs xs φ L Q E hr hcalm _ hpin e0 hbind r hl hR hxs hFin => ?_⟩
    obtain ⟨h1, rfl⟩ := hcalm rfl
    exact Fo.run A outer s H args us vs Q E ⟨h1, hr.dp, hr.un⟩ e0 hbind r ⟨hl, B, φ, L, xs, hR, hxs, hFin⟩
  | true =>
    refine ⟨fun B pn A outer s H args us vs xs φ L Q E hr _ hhot hpin e0 hbind r hl hR hxs hFin => ?_⟩
    obtain ⟨p, rfl, hp⟩ := hhot rfl
    have inK := e0.mod.kin.keeps fun b o q => (e0.bs b o q).1
    have none_ := e0.mod.nolimit.keeps fun b o q => (e0.bs b o q).1
    have kinds : ∀ z ∈ ps.zip us, scope.names.lookup z.1 = some .local ∨ (scope.names.lookup z.1 = some .cell ∧ ((cellsFrom (s.heap.objs.size + 1) scope.names []).lookup z.1).isSome = true) := fun z hz =>
      (S.par z.1 (List.of_mem_zip (a := z.1) (b := z.2) hz).1).imp id fun q => ⟨q, PySem.W.cellsFrom_some _ _ _ (.inl q)⟩
    refine codeAny_call_function hr.depth (inK _ _ lk) rfl S.co S.gen rfl (PySem.W.codeRec_of inK hcd) (hbind _ _ _ _ (wpAny_newFunctionEnv_cells S.kind kinds fun v hv s1 y => ?_))
    subst hv
    refine ⟨none_.keeps y.toInCall.keep, codeAny_func ?_⟩
    have I := L2H.inv_startH (CX := L2N.CX P w) (E := E) S (hpin p (List.mem_singleton.mpr rfl)) e0 hl r y
    obtain ⟨t, h1, h2⟩ := body_of (X := L2H.cxH (L2N.CX P w) P w G.K mg base N qual scope f cdv A outer s H E p) (hot := true) (B := B) (E := E) (pn := [p]) (fi := fi) (F := F) (N := N)
      ⟨rfl, ft' B, fns' B, fnsH' B, hr.deeper _, (fun z => by cases z), (fun z => by cases z), fun _ => ⟨p, rfl, hp⟩, fun q hq => hq, L2N.takes_of rfl rfl rfl rfl, S.nd⟩ (passes_of rfl) ⟨rfl, rfl⟩ (fun _ => rfl) hF (hl.trans hps) hN rfl hb hR hxs hFin
    refine wpAny_mono (h1.run [] s1 _ H _ I h2) (fun fl s2 q => ?_) fun _ _ q => q
    have done : ∀ {σ2 : L2.St} {H2 : Hp} {v : V} {u : Value}, Inv (L2H.cxH (L2N.CX P w) P w G.K mg base N qual scope f cdv A outer s H E p) [] σ2 H2 s2 → RelV v u → Q v H2 → CE outer P w H s Q u s2 := fun J a b => ⟨_, _, J.os, J.bare, J.base, J.hok, a, b⟩
    cases fl with
    | next =>
      obtain ⟨_, _, J, q⟩ := q
      exact done (u := Value.none) (v := V.non) J rfl q
    | ret u =>
      obtain ⟨_, _, _, J, a, b⟩ := q
      exact done J a b
    | _ =>
      obtain ⟨_, _, _, q⟩ := q
      exact q.elim
end
end PI

set_option maxRecDepth 100000
set_option maxHeartbeats 1000000
namespace PI
open PySem PySem.Spec PyProof.Rows L2
theorem look_none {α : Type} {x : Str} : ∀ {l : List (Str × α)}, x ∉ l.map (·.1) → (l.lookup x).isSome = false
  | [], _ => rfl
  | (y, v) :: r, h => by
    simp only [List.map_cons, List.mem_cons, not_or] at h
    rw [List.lookup_cons, show (x == y) = false from beq_eq_false_iff_ne.mpr h.1]
    exact look_none h.2
theorem look_some {α : Type} {x : Str} : ∀ {l : List (Str × α)}, x ∈ l.map (·.1) → ∃ v, l.lookup x = some v
  | [], h => by cases h
  | (y, v) :: r, h => by
    rw [List.lookup_cons]
    by_cases e : x = y
    · subst e
      rw [show (x == x) = true from beq_iff_eq.mpr rfl]
      exact ⟨v, rfl⟩
    · rw [show (x == y) = false from beq_eq_false_iff_ne.mpr e]
      exact look_some ((List.mem_cons.mp h).resolve_left e)
theorem kwLoop {normal kwonly : List Str} {f : Str × Value → List (Str × Value) × List (Str × Value) → Sem (ForInStep (List (Str × Value) × List (Str × Value)))}
    (hf : ∀ x s e, (normal.contains x.1 || kwonly.contains x.1) = true → (s.lookup x.1).isSome = false → f x (s, e) = pure (.yield (s ++ [x], e))) (e : List (Str × Value)) :
    ∀ (kw s : List (Str × Value)), (∀ x ∈ kw, (normal.contains x.1 || kwonly.contains x.1) = true) → ((s ++ kw).map (·.1)).Nodup → forIn kw (s, e) f = pure (s ++ kw, e)
  | [], s, _, _ => by simp
  | x :: kw, s, h1, h2 => by
    rw [List.forIn_cons, hf x s e (h1 x (List.mem_cons_self ..)) ?_]
    · show forIn kw (s ++ [x], e) f = _
      rw [kwLoop hf e kw (s ++ [x]) (fun y hy => h1 y (List.mem_cons_of_mem _ hy)) (by simpa using h2)]
      simp
    · refine look_none fun z => ?_
      rw [List.map_append, List.nodup_append] at h2
      exact h2.2.2 x.1 z x.1 (by simp) rfl
theorem dLoop {f : Str × Value → List (Str × Value) → Sem (ForInStep (List (Str × Value)))} : forIn ([] : List (Str × Value)) s f = pure s := rfl
theorem kwoLoop {α β : Type} {f : Str → List (Str × α) × β → Sem (ForInStep (List (Str × α) × β))} (hf : ∀ x s e, (s.lookup x).isNone = false → f x (s, e) = pure (.yield (s, e))) (e : β) (s : List (Str × α)) :
    ∀ (l : List Str), (∀ x ∈ l, (s.lookup x).isNone = false) → forIn l (s, e) f = pure (s, e)
  | [], _ => rfl
  | x :: l, h => by
    rw [List.forIn_cons, hf x s e (h x (List.mem_cons_self ..))]
    exact kwoLoop hf e s l fun y hy => h y (List.mem_cons_of_mem _ hy)
theorem filt_nil {α : Type} {s : List (Str × α)} {l : List Str} (h : ∀ x ∈ l, ∃ v, s.lookup x = some v) : l.filter (fun n => (s.lookup n).isNone) = [] := by
  rw [List.filter_eq_nil_iff]
  intro x hx
  obtain ⟨v, e⟩ := h x hx
  rw [e]
  simp
/-- no defaults -/
theorem bind_plain {fd : FuncData} {pos : List Value} {kw : List (Str × Value)} {norm kwo : List Str} (hpos : fd.params.posonlyargs = []) (hn : fd.params.args.map (·.arg) = norm) (hko : fd.params.kwonlyargs.map (·.arg) = kwo) (hv : fd.params.vararg = none) (hk : fd.params.kwarg = none) (hd : fd.defaults = .none)
    (h0 : pos.length ≤ norm.length) (h1 : ∀ x ∈ kw, x.1 ∈ norm ++ kwo) (h2 : ((norm.zip pos ++ kw).map (·.1)).Nodup) (h3 : ∀ x ∈ norm ++ kwo, ∃ v, (norm.zip pos ++ kw).lookup x = some v) :
    bindArgs fd ⟨pos, kw⟩ = pure ((norm ++ kwo).filterMap fun n => ((norm.zip pos ++ kw).lookup n).map (n, ·)) := by
  unfold bindArgs
  dsimp only
  rw [hpos, hn, hko, hv, hk, hd]
  simp only [List.map_nil, List.nil_append]
  rw [kwLoop (normal := norm) (kwonly := kwo) (fun x s e q1 q2 => by
    rw [if_pos q1, if_neg (by rw [q2]; decide)]) [] kw _ (fun x hx => by simpa using List.mem_append.mp (h1 x hx)) h2]
  rw [pure_bind, show seqItems? Value.none = pure none from rfl, pure_bind]
  have g : decide (pos.length > norm.length) = false := by simp; omega
  have hsel : ∀ x ∈ kwo, ((norm.zip pos ++ kw).lookup x).isNone = false := fun x hx => by
    obtain ⟨v, e⟩ := h3 x (List.mem_append_right _ hx)
    rw [e]; rfl
  have hfil : (List.take norm.length norm).filter (fun n => ((norm.zip pos ++ kw).lookup n).isNone) = [] := by
    rw [List.take_length]
    exact filt_nil fun x hx => h3 x (List.mem_append_left _ hx)
  simp only [g, Bool.false_and, Bool.false_eq_true, if_false, Option.getD_none, List.length_nil, Nat.zero_sub, List.drop_nil, List.zip_nil_right, Nat.sub_zero, hfil, List.isEmpty_nil, Bool.not_true]
  rw [List.forIn_nil, pure_bind]
  rw [kwoLoop (fun x s e q => by rw [if_neg (by rw [q]; decide)]) _ _ _ hsel]
  rfl
theorem look_map {α β : Type} (f : α → β) (x : Nat) : ∀ l : List (Nat × α), (l.map fun p => (p.1, f p.2)).lookup x = (l.lookup x).map f
  | [] => rfl
  | (y, v) :: r => by
    simp only [List.map_cons, List.lookup_cons]
    cases x == y with
    | true => rfl
    | false => exact look_map f x r
theorem look_nm {α : Type} {nm : Nat → Str} {ns : List Nat} (inj : ∀ x ∈ ns, ∀ y ∈ ns, nm x = nm y → x = y) {x : Nat} (hx : x ∈ ns) : ∀ l : List (Nat × α), (∀ p ∈ l, p.1 ∈ ns) → (l.map fun p => (nm p.1, p.2)).lookup (nm x) = l.lookup x
  | [], _ => rfl
  | (y, v) :: r, h => by
    simp only [List.map_cons, List.lookup_cons]
    by_cases e : x = y
    · subst e
      rw [show (x == x) = true from beq_iff_eq.mpr rfl, show (nm x == nm x) = true from beq_iff_eq.mpr rfl]
    · have e2 : nm x ≠ nm y := fun z => e (inj x hx y (h _ (List.mem_cons_self ..)) z)
      rw [show (x == y) = false from beq_eq_false_iff_ne.mpr e, show (nm x == nm y) = false from beq_eq_false_iff_ne.mpr e2]
      exact look_nm inj hx r fun p hp => h p (List.mem_cons_of_mem _ hp)
theorem inj_of {nm : Nat → Str} : ∀ {ns : List Nat}, (ns.map nm).Nodup → ∀ x ∈ ns, ∀ y ∈ ns, nm x = nm y → x = y
  | [], _, x, hx, _, _, _ => by cases hx
  | a :: r, h, x, hx, y, hy, e => by
    rw [List.map_cons, List.nodup_cons] at h
    rcases List.mem_cons.mp hx with hx1 | hx1
    · rcases List.mem_cons.mp hy with hy1 | hy1
      · rw [hx1, hy1]
      · exact absurd (List.mem_map.mpr ⟨y, hy1, by rw [← hx1]; exact e.symm⟩) h.1
    · rcases List.mem_cons.mp hy with hy1 | hy1
      · exact absurd (List.mem_map.mpr ⟨x, hx1, by rw [← hy1]; exact e⟩) h.1
      · exact inj_of h.2 x hx1 y hy1 e
theorem mapM_some {α : Type} {l : List (Nat × α)} : ∀ {ns : List Nat} {zs : List α}, (ns.mapM fun x => l.lookup x) = some zs → (∀ x ∈ ns, ∃ v, l.lookup x = some v) ∧ zs.length = ns.length ∧ ∀ (i : Nat) (x : Nat), ns[i]? = some x → zs[i]? = l.lookup x
  | [], zs, h => by
    simp at h
    subst h
    exact ⟨(fun x hx => by cases hx), rfl, fun i x hx => by simp at hx⟩
  | a :: r, zs, h => by
    rw [List.mapM_cons] at h
    cases h1 : l.lookup a with
    | none => rw [h1] at h; cases h
    | some v =>
      rw [h1] at h
      cases h2 : (r.mapM fun x => l.lookup x) with
      | none => rw [h2] at h; cases h
      | some ws =>
        rw [h2] at h
        obtain rfl : v :: ws = zs := Option.some.inj h
        obtain ⟨q1, q2, q3⟩ := mapM_some h2
        refine ⟨fun x hx => ?_, by simp [q2], fun i x hx => ?_⟩
        · rcases List.mem_cons.mp hx with rfl | hx
          · exact ⟨v, h1⟩
          · exact q1 x hx
        · cases i with
          | zero => simp at hx; subst hx; simp [h1]
          | succ i => simpa using q3 i x (by simpa using hx)
theorem filt_zip {α : Type} {g : Str → Option α} : ∀ {ns : List Str} {us : List α}, us.length = ns.length → (∀ (i : Nat) (x : Str), ns[i]? = some x → us[i]? = g x) → (ns.filterMap fun n => (g n).map (n, ·)) = ns.zip us
  | [], us, _, _ => by simp
  | a :: r, [], h, _ => by cases h
  | a :: r, u :: us, h, hg => by
    have h1 := hg 0 a rfl
    simp at h1
    rw [List.filterMap_cons, ← h1]
    simp only [Option.map_some, List.zip_cons_cons]
    rw [filt_zip (by simpa using h) fun i x hx => by simpa using hg (i + 1) x (by simpa using hx)]
theorem paired_get {α β : Type} {R : α → β → Prop} {l : List α} {m : List β} (hl : l.length = m.length) (h : ∀ (i : Nat) (a : α) (b : β), l[i]? = some a → m[i]? = some b → R a b) : Paired R l m := by
  induction l generalizing m with
  | nil => cases m with
    | nil => exact .nil
    | cons _ _ => cases hl
  | cons a l ih =>
    cases m with
    | nil => cases hl
    | cons b m => exact .cons (h 0 a b rfl rfl) (ih (by simpa using hl) fun i x y h1 h2 => h (i + 1) x y (by simpa using h1) (by simpa using h2))
theorem rvs_get {G : Gd} {pn : Pn} {φ : List Addr} {O : Addr → Prop} {H : Hp} : ∀ {xs : List V2} {vs : List V}, xs.length = vs.length → (∀ (i : Nat) (x : V2) (v : V), xs[i]? = some x → vs[i]? = some v → RV G pn φ O H x v) → RVs G pn φ O H xs vs
  | [], [], _, _ => rfl
  | [], _ :: _, h, _ => by cases h
  | _ :: _, [], h, _ => by cases h
  | x :: xs, v :: vs, hl, h => ⟨v, vs, rfl, h 0 x v rfl rfl, rvs_get (by simpa using hl) fun i a b h1 h2 => h (i + 1) a b (by simpa using h1) (by simpa using h2)⟩
/-- the three together -/
abbrev T3 := V2 × V × Value
def t3 (xs : List V2) (vs : List V) (us : List Value) : List T3 := xs.zip (vs.zip us)
theorem t3_fst {xs : List V2} {vs : List V} {us : List Value} (h1 : vs.length = xs.length) (h2 : us.length = vs.length) : (t3 xs vs us).map (·.1) = xs ∧ (t3 xs vs us).map (·.2.1) = vs ∧ (t3 xs vs us).map (·.2.2) = us := by
  have l : xs.length ≤ (vs.zip us).length := by rw [List.length_zip]; omega
  refine ⟨List.map_fst_zip l, ?_, ?_⟩
  · have : (t3 xs vs us).map (·.2) = vs.zip us := List.map_snd_zip (by rw [List.length_zip]; omega)
    rw [show (fun x : T3 => x.2.1) = (fun y : V × Value => y.1) ∘ (fun x : T3 => x.2) from rfl, ← List.map_map, this, List.map_fst_zip (by omega)]
  · have : (t3 xs vs us).map (·.2) = vs.zip us := List.map_snd_zip (by rw [List.length_zip]; omega)
    rw [show (fun x : T3 => x.2.2) = (fun y : V × Value => y.2) ∘ (fun x : T3 => x.2) from rfl, ← List.map_map, this, List.map_snd_zip (by omega)]
theorem rvs_t3 {G : Gd} {pn : Pn} {φ : List Addr} {O : Addr → Prop} {H : Hp} {xs : List V2} {vs : List V} {us : List Value} (r : RVs G pn φ O H xs vs) (q : Vals vs us) : ∀ t ∈ t3 xs vs us, RV G pn φ O H t.1 t.2.1 ∧ RelV t.2.1 t.2.2 := fun t ht => by
  obtain ⟨i, hi, e⟩ := List.getElem_of_mem ht
  have e' : (t3 xs vs us)[i]? = some t := by rw [List.getElem?_eq_getElem hi, e]
  unfold t3 at e'
  rw [List.getElem?_zip_eq_some] at e'
  obtain ⟨e1, e2⟩ := e'
  rw [List.getElem?_zip_eq_some] at e2
  refine ⟨rvs_at r e1 e2.1, ?_⟩
  obtain ⟨u, hu, rv⟩ := q.get e2.1
  rw [e2.2] at hu
  cases hu
  exact rv
theorem look_mem {α : Type} {x : Nat} {v : α} : ∀ {l : List (Nat × α)}, l.lookup x = some v → (x, v) ∈ l
  | [], h => by cases h
  | (y, w) :: r, h => by
    rw [List.lookup_cons] at h
    by_cases e : x = y
    · subst e
      rw [show (x == x) = true from beq_iff_eq.mpr rfl] at h
      cases h
      exact List.mem_cons_self ..
    · rw [show (x == y) = false from beq_eq_false_iff_ne.mpr e] at h
      exact List.mem_cons_of_mem _ (look_mem h)
theorem mapM_of {α : Type} {l : List (Nat × α)} : ∀ {ns : List Nat}, (∀ x ∈ ns, ∃ v, l.lookup x = some v) → ∃ zs, (ns.mapM fun x => l.lookup x) = some zs
  | [], _ => ⟨[], rfl⟩
  | a :: r, h => by
    obtain ⟨v, hv⟩ := h a (List.mem_cons_self ..)
    obtain ⟨zs, hz⟩ := mapM_of (ns := r) fun x hx => h x (List.mem_cons_of_mem _ hx)
    exact ⟨v :: zs, by rw [List.mapM_cons, hv, hz]; rfl⟩
theorem nodup_nm {nm : Nat → Str} {ns : List Nat} (inj : ∀ x ∈ ns, ∀ y ∈ ns, nm x = nm y → x = y) : ∀ {l : List Nat}, l.Nodup → (∀ x ∈ l, x ∈ ns) → (l.map nm).Nodup
  | [], _, _ => .nil
  | a :: r, h, hl => by
    rw [List.nodup_cons] at h
    rw [List.map_cons, List.nodup_cons]
    refine ⟨fun z => ?_, nodup_nm inj h.2 fun x hx => hl x (List.mem_cons_of_mem _ hx)⟩
    obtain ⟨y, hy, e⟩ := List.mem_map.mp z
    have := inj y (hl y (List.mem_cons_of_mem _ hy)) a (hl a (List.mem_cons_self ..)) e
    exact h.1 (this ▸ hy)
/-- no defaults: what is bound -/
theorem bnd_plain {G : Gd} {fd : FuncData} {norm kwo : List Nat} (hpos : fd.params.posonlyargs = []) (hn : fd.params.args.map (·.arg) = norm.map G.nm) (hko : fd.params.kwonlyargs.map (·.arg) = kwo.map G.nm) (hv : fd.params.vararg = none) (hk : fd.params.kwarg = none) (hd : fd.defaults = .none)
    (nd : ((norm ++ kwo).map G.nm).Nodup) : BndOk G fd ((norm ++ kwo).map G.nm) (fun pos kw => bindP norm kwo [] [] pos kw) := by
  intro s pos kw zs us ws vs ks pn φ O H B hK hb r1 r2 v1 v2
  have hb : bindP norm kwo [] [] pos kw = some zs := hb
  unfold bindP at hb
  dsimp only at hb
  split at hb
  · rename_i h0
    simp only [List.length_nil, Nat.sub_zero, List.drop_length, List.zip_nil_right, List.append_nil] at hb
    split at hb
    · rename_i h1
      simp only [Bool.and_eq_true, List.all_eq_true, decide_eq_true_eq] at h1
      obtain ⟨h1, h2⟩ := h1
      obtain ⟨m1, m2, m3⟩ := mapM_some hb
      have lp : vs.length = pos.length := RVs.len r1
      have lk : ks.length = kw.length := by rw [RVs.len r2, List.length_map]
      have lu : us.length = vs.length := v1.length.symm
      have lw : ws.length = ks.length := v2.length.symm
      obtain ⟨p1, p2, p3⟩ := t3_fst lp lu
      obtain ⟨k1, k2, k3⟩ := t3_fst (xs := kw.map (·.2)) (vs := ks) (us := ws) (by rw [List.length_map]; exact lk) lw
      have lt : (t3 pos vs us).length = pos.length := by rw [← List.length_map (f := (·.1)), p1]
      have ltk : (t3 (kw.map (·.2)) ks ws).length = kw.length := by rw [← List.length_map (f := (·.1)), k1, List.length_map]
      -- the three together, by name
      let all : List (Nat × T3) := norm.zip (t3 pos vs us) ++ (kw.map (·.1)).zip (t3 (kw.map (·.2)) ks ws)
      have am : ∀ {β : Type} (f : T3 → β), (all.map fun p => (p.1, f p.2)) = norm.zip ((t3 pos vs us).map f) ++ (kw.map (·.1)).zip ((t3 (kw.map (·.2)) ks ws).map f) := fun {β} f => by
        show ((norm.zip (t3 pos vs us) ++ (kw.map (·.1)).zip (t3 (kw.map (·.2)) ks ws)).map fun p => (p.1, f p.2)) = _
        rw [List.map_append, List.zip_map_right, List.zip_map_right]
        rfl
      have a1 : (all.map fun p => (p.1, p.2.1)) = norm.zip pos ++ kw := by
        rw [am (fun t => t.1), p1, k1]
        congr 1
        exact (List.zip_of_prod rfl rfl).symm
      have a3 : (all.map fun p => (p.1, p.2.2.2)) = norm.zip us ++ (kw.map (·.1)).zip ws := by rw [am (fun t => t.2.2), p3, k3]
      have names : all.map (·.1) = (norm.zip pos ++ kw).map (·.1) := by
        rw [← a1, List.map_map]
        rfl
      have inn : ∀ p ∈ all, p.1 ∈ norm ++ kwo := fun p hp => by
        have : p.1 ∈ (norm.zip pos ++ kw).map (·.1) := by rw [← names]; exact List.mem_map.mpr ⟨p, hp, rfl⟩
        rw [List.map_append, List.mem_append] at this
        rcases this with z | z
        · obtain ⟨q, hq, e⟩ := List.mem_map.mp z
          rw [← e]
          exact List.mem_append_left _ (List.of_mem_zip (a := q.1) (b := q.2) hq).1
        · obtain ⟨q, hq, e⟩ := List.mem_map.mp z
          rw [← e]
          simpa using h1 q hq
      have look : ∀ x ∈ norm ++ kwo, ∃ t, all.lookup x = some t ∧ RV (G.at B) pn φ O H t.1 t.2.1 ∧ RelV t.2.1 t.2.2 := fun x hx => by
        obtain ⟨v, hv⟩ := m1 x hx
        rw [← a1, look_map (fun t : T3 => t.1)] at hv
        cases ht : all.lookup x with
        | none => rw [ht] at hv; cases hv
        | some t =>
          have hm := look_mem ht
          rcases List.mem_append.mp hm with z | z
          · exact ⟨t, rfl, rvs_t3 r1 v1 t (List.of_mem_zip z).2⟩
          · exact ⟨t, rfl, rvs_t3 r2 v2 t (List.of_mem_zip z).2⟩
      -- the answers
      obtain ⟨ts, hts⟩ := mapM_of (l := all) (ns := norm ++ kwo) fun x hx => let ⟨t, e, _⟩ := look x hx; ⟨t, e⟩
      obtain ⟨_, t2, t3'⟩ := mapM_some hts
      have get : ∀ (i : Nat) (t : T3), ts[i]? = some t → ∃ x, (norm ++ kwo)[i]? = some x ∧ all.lookup x = some t := fun i t ht => by
        have hi : i < (norm ++ kwo).length := by rw [← t2]; exact (List.getElem?_eq_some_iff.mp ht).1
        have e := t3' i _ (List.getElem?_eq_getElem hi)
        rw [ht] at e
        exact ⟨_, List.getElem?_eq_getElem hi, e.symm⟩
      have good : ∀ (i : Nat) (t : T3), ts[i]? = some t → RV (G.at B) pn φ O H t.1 t.2.1 ∧ RelV t.2.1 t.2.2 := fun i t ht => by
        obtain ⟨x, hx, e⟩ := get i t ht
        obtain ⟨t', e', q⟩ := look x (List.mem_of_getElem? hx)
        rw [e] at e'
        cases e'
        exact q
      have hz : zs = ts.map (·.1) := by
        apply List.ext_getElem?
        intro i
        by_cases hi : i < (norm ++ kwo).length
        · have hx := List.getElem?_eq_getElem hi
          rw [m3 i _ hx, List.getElem?_map, t3' i _ hx, ← a1, look_map (fun t : T3 => t.1)]
        · rw [List.getElem?_eq_none (by omega), List.getElem?_eq_none (by rw [List.length_map]; omega)]
      refine ⟨ts.map (·.2.2), ts.map (·.2.1), ?_, ?_, ?_, by simp [t2]⟩
      · have ek : ((kw.map fun p => G.nm p.1).zip ws) = ((kw.map (·.1)).zip ws).map fun p => (G.nm p.1, p.2) := by
          rw [show (fun p : Nat × V2 => G.nm p.1) = G.nm ∘ (fun p => p.1) from rfl, ← List.map_map, List.zip_map_left]
          rfl
        have en : ((norm.map G.nm).zip us) = (norm.zip us).map fun p => (G.nm p.1, p.2) := by
          rw [List.zip_map_left]
          rfl
        have eall : ((norm.map G.nm).zip us ++ (kw.map fun p => G.nm p.1).zip ws) = (all.map fun p => (p.1, p.2.2.2)).map fun p => (G.nm p.1, p.2) := by
          rw [ek, en, a3, List.map_append]
        have inn3 : ∀ p ∈ (all.map fun p => (p.1, p.2.2.2)), p.1 ∈ norm ++ kwo := fun p hp => by
          obtain ⟨q, hq, e⟩ := List.mem_map.mp hp
          rw [← e]
          exact inn q hq
        have inj := inj_of nd
        have lk3 : ∀ x ∈ norm ++ kwo, ((norm.map G.nm).zip us ++ (kw.map fun p => G.nm p.1).zip ws).lookup (G.nm x) = (all.lookup x).map fun t => t.2.2 := fun x hx => by
          rw [eall, look_nm inj hx _ inn3, look_map (fun t : T3 => t.2.2)]
        have := bind_plain (fd := fd) (pos := us) (kw := (kw.map fun p => G.nm p.1).zip ws) hpos hn hko hv hk hd (by rw [List.length_map]; omega) (fun x hx => by
            have z := (List.of_mem_zip (a := x.1) (b := x.2) hx).1
            obtain ⟨q, hq, e⟩ := List.mem_map.mp z
            rw [← e, ← List.map_append]
            exact List.mem_map.mpr ⟨q.1, by simpa using h1 q hq, rfl⟩) (by
            rw [eall, List.map_map]
            have e5 : (all.map fun p => (p.1, p.2.2.2)).map ((fun p : Str × Value => p.1) ∘ fun p : Nat × Value => (G.nm p.1, p.2)) = (all.map (·.1)).map G.nm := by
              rw [List.map_map, List.map_map]
              rfl
            rw [e5]
            rw [← names] at h2
            exact nodup_nm inj h2 fun x hx => by
              obtain ⟨p, hp, e⟩ := List.mem_map.mp hx
              rw [← e]
              exact inn p hp) (fun x hx => by
            rw [← List.map_append] at hx
            obtain ⟨y, hy, rfl⟩ := List.mem_map.mp hx
            obtain ⟨t, e, _⟩ := look y hy
            exact ⟨t.2.2, by rw [lk3 y hy, e]; rfl⟩)
        refine BindsTo.of_eq (this.trans (congrArg pure ?_))
        rw [← List.map_append]
        refine filt_zip (by simp [t2]) fun i x hx => ?_
        rw [List.getElem?_map] at hx
        cases hy : (norm ++ kwo)[i]? with
        | none => rw [hy] at hx; cases hx
        | some y =>
          rw [hy] at hx
          cases hx
          rw [lk3 y (List.mem_of_getElem? hy), List.getElem?_map, t3' i y hy]
      · refine paired_get (by simp) fun i a b h1 h2 => ?_
        rw [List.getElem?_map] at h1 h2
        cases e : ts[i]? with
        | none => rw [e] at h1; cases h1
        | some t => rw [e] at h1 h2; cases h1; cases h2; exact (good i t e).2
      · rw [hz]
        refine rvs_get (by simp) fun i a b h1 h2 => ?_
        rw [List.getElem?_map] at h1 h2
        cases e : ts[i]? with
        | none => rw [e] at h1; cases h1
        | some t => rw [e] at h1 h2; cases h1; cases h2; exact (good i t e).1
    · cases hb
  · cases hb
end PI

set_option maxRecDepth 100000
set_option maxHeartbeats 1000000
namespace PI
open PySem PySem.Spec PyProof.Rows L2
theorem look_app {α : Type} (x : Str) : ∀ (l m : List (Str × α)), (l ++ m).lookup x = (l.lookup x).or (m.lookup x)
  | [], m => by simp
  | (y, v) :: r, m => by
    rw [List.cons_append, List.lookup_cons, List.lookup_cons]
    cases x == y with
    | true => rfl
    | false => exact look_app x r m
theorem look_appN {α : Type} (x : Nat) : ∀ (l m : List (Nat × α)), (l ++ m).lookup x = (l.lookup x).or (m.lookup x)
  | [], m => by simp
  | (y, v) :: r, m => by
    rw [List.cons_append, List.lookup_cons, List.lookup_cons]
    cases x == y with
    | true => rfl
    | false => exact look_appN x r m
theorem look_memS {α : Type} {x : Str} {v : α} : ∀ {l : List (Str × α)}, l.lookup x = some v → (x, v) ∈ l
  | [], h => by cases h
  | (y, w) :: r, h => by
    rw [List.lookup_cons] at h
    by_cases e : x = y
    · subst e
      rw [show (x == x) = true from beq_iff_eq.mpr rfl] at h
      cases h
      exact List.mem_cons_self ..
    · rw [show (x == y) = false from beq_eq_false_iff_ne.mpr e] at h
      exact List.mem_cons_of_mem _ (look_memS h)
theorem fm_congr {α β : Type} {f g : α → Option β} : ∀ {l : List α}, (∀ x ∈ l, f x = g x) → l.filterMap f = l.filterMap g
  | [], _ => rfl
  | a :: l, h => by rw [List.filterMap_cons, List.filterMap_cons, h a (List.mem_cons_self ..), fm_congr fun x hx => h x (List.mem_cons_of_mem _ hx)]
/-- the names that lack are filled up -/
theorem kwdLoop {β : Type} {M : Model} {h : Heap} {f : Str → List (Str × Value) × β → Sem (ForInStep (List (Str × Value) × β))} {kws : List (Str × Value)} (hf : ∀ x s e, (s.lookup x).isNone = false → f x (s, e) = pure (.yield (s, e)))
    (hg : ∀ x s e v, (s.lookup x).isNone = true → kws.lookup x = some v → PySem.W.Looks M h (f x (s, e)) (.yield (s ++ [(x, v)], e))) (e : β) :
    ∀ (l : List Str) (s : List (Str × Value)), (∀ x ∈ l, ∃ v, (s ++ kws).lookup x = some v) → ∃ t, PySem.W.Looks M h (forIn l (s, e) f) (s ++ t, e) ∧ ∀ y, (s ++ t).lookup y = if y ∈ l then (s ++ kws).lookup y else s.lookup y
  | [], s, _ => ⟨[], PySem.W.Looks.of_pure (by simp), fun y => by simp⟩
  | x :: l, s, hx => by
    cases hs : s.lookup x with
    | some v =>
      obtain ⟨t, h1, h2⟩ := kwdLoop hf hg e l s (fun y hy => hx y (List.mem_cons_of_mem _ hy))
      refine ⟨t, ?_, fun y => ?_⟩
      · rw [List.forIn_cons, hf x s e (by rw [hs]; rfl), pure_bind]
        exact h1
      · rw [h2 y]
        by_cases z : y = x
        · subst z
          simp only [List.mem_cons, true_or, if_true, look_app, hs, Option.some_or]
          split <;> rfl
        · simp only [List.mem_cons, z, false_or]
    | none =>
      obtain ⟨v, hv⟩ := hx x (List.mem_cons_self ..)
      rw [look_app, hs, Option.none_or] at hv
      have look1 : ∀ y, (s ++ [(x, v)]).lookup y = if y = x then some v else s.lookup y := fun y => by
        rw [look_app, List.lookup_cons]
        by_cases z : y = x
        · subst z
          rw [show (y == y) = true from beq_iff_eq.mpr rfl, hs, if_pos rfl]
          rfl
        · rw [show (y == x) = false from beq_eq_false_iff_ne.mpr z, if_neg z]
          simp
      obtain ⟨t, h1, h2⟩ := kwdLoop hf hg e l (s ++ [(x, v)]) (fun y hy => by
        obtain ⟨w, hw⟩ := hx y (List.mem_cons_of_mem _ hy)
        rw [look_app] at hw ⊢
        rw [look1]
        by_cases z : y = x
        · exact ⟨v, by rw [if_pos z]; rfl⟩
        · exact ⟨w, by rw [if_neg z]; exact hw⟩)
      refine ⟨(x, v) :: t, ?_, fun y => ?_⟩
      · rw [List.forIn_cons]
        refine (hg x s e v (by rw [hs]; rfl) hv).andThen ?_
        rw [show s ++ (x, v) :: t = s ++ [(x, v)] ++ t by simp]
        exact h1
      · rw [show s ++ (x, v) :: t = s ++ [(x, v)] ++ t by simp, h2 y, look_app y (s ++ [(x, v)]) kws, look_app y s kws, look1]
        by_cases z : y = x
        · subst z
          simp only [List.mem_cons, true_or, if_true, hs, Option.none_or, hv, Option.some_or]
          split <;> rfl
        · simp only [List.mem_cons, z, false_or, if_false]
theorem bind_kwd {K : PySem.W.Frag} {fd : FuncData} {pos : List Value} {kw : List (Str × Value)} {norm kwo : List Str} {D : Addr} {kws : List (Str × Value)} {s : Shared} (hpos : fd.params.posonlyargs = []) (hn : fd.params.args.map (·.arg) = norm) (hko : fd.params.kwonlyargs.map (·.arg) = kwo) (hv : fd.params.vararg = none) (hk : fd.params.kwarg = none) (hd : fd.defaults = .none)
    (hkd : fd.kwdefaults = .ref D) (X : K.In s.heap) (hks : ∀ q ∈ kws, PySem.W.nsIn K D q.1 = some (some q.2))
    (h0 : pos.length ≤ norm.length) (h1 : ∀ x ∈ kw, x.1 ∈ norm ++ kwo) (h2 : ((norm.zip pos ++ kw).map (·.1)).Nodup) (h3 : ∀ x ∈ norm, ∃ v, (norm.zip pos ++ kw).lookup x = some v) (h4 : ∀ x ∈ kwo, ∃ v, (norm.zip pos ++ kw ++ kws).lookup x = some v) (h5 : ∀ x ∈ norm, x ∉ kwo) :
    BindsTo s fd ⟨pos, kw⟩ ((norm ++ kwo).filterMap fun n => ((norm.zip pos ++ kw ++ kws).lookup n).map (n, ·)) := by
  refine BindsTo.of_looks fun M => ?_
  unfold bindArgs
  dsimp only
  rw [hpos, hn, hko, hv, hk, hd, hkd]
  simp only [List.map_nil, List.nil_append]
  rw [kwLoop (normal := norm) (kwonly := kwo) (fun x s e q1 q2 => by
    rw [if_pos q1, if_neg (by rw [q2]; decide)]) [] kw _ (fun x hx => by simpa using List.mem_append.mp (h1 x hx)) h2]
  rw [pure_bind, show seqItems? Value.none = pure none from rfl, pure_bind]
  have g : decide (pos.length > norm.length) = false := by simp; omega
  have hfil : (List.take norm.length norm).filter (fun n => ((norm.zip pos ++ kw).lookup n).isNone) = [] := by
    rw [List.take_length]
    exact filt_nil fun x hx => h3 x hx
  simp only [g, Bool.false_and, Bool.false_eq_true, if_false, Option.getD_none, List.length_nil, Nat.zero_sub, List.drop_nil, List.zip_nil_right, Nat.sub_zero, hfil, List.isEmpty_nil, Bool.not_true]
  rw [List.forIn_nil, pure_bind]
  obtain ⟨t, l1, l2⟩ := kwdLoop (M := M) (h := s.heap) (kws := kws) (f := fun name r =>
          if (List.lookup name r.1).isNone = true then do
            let dflt ← nsGet D name
            match dflt with
              | some v => pure (ForInStep.yield (r.1 ++ [(name, v)], r.2))
              | none => pure (ForInStep.yield (r.1, r.2 ++ [name]))
          else pure (ForInStep.yield (r.1, r.2))) (fun x s e q => by
      dsimp only
      rw [if_neg (by rw [q]; decide)]) (fun x s e v q1 q2 => by
      dsimp only
      rw [if_pos q1]
      have : (x, v) ∈ kws := look_memS q2
      exact (PySem.W.looks_nsIn X (hks _ this)).andThen (PySem.W.Looks.of_pure rfl)) ([] : List Str) kwo (norm.zip pos ++ kw) h4
  refine l1.andThen ?_
  dsimp only
  rw [if_neg (by simp)]
  refine PySem.W.Looks.of_pure (congrArg pure ?_)
  refine fm_congr fun n hn => ?_
  rw [l2 n]
  by_cases z : n ∈ kwo
  · rw [if_pos z]
  · rw [if_neg z]
    obtain ⟨v, e⟩ := h3 n ((List.mem_append.mp hn).resolve_right z)
    rw [look_app n _ kws, e]
    rfl
/-- with keyword-only defaults: what is bound -/
theorem bnd_kwd {G : Gd} {fd : FuncData} {norm kwo : List Nat} {D : Addr} {kwd : List (Nat × PI.D × V × Value)} (hpos : fd.params.posonlyargs = []) (hn : fd.params.args.map (·.arg) = norm.map G.nm) (hko : fd.params.kwonlyargs.map (·.arg) = kwo.map G.nm) (hv : fd.params.vararg = none) (hk : fd.params.kwarg = none) (hd : fd.defaults = .none)
    (hkd : fd.kwdefaults = .ref D) (hks : ∀ q ∈ kwd, PySem.W.nsIn G.K D (G.nm q.1) = some (some q.2.2.2)) (hkr : ∀ q ∈ kwd, RelV q.2.2.1 q.2.2.2) (hkv : ∀ q ∈ kwd, ∀ (B : Addr → Prop) (O : Addr → Prop) (H : Hp), RD (G.at B) O H q.2.1 q.2.2.1) (hkn : ∀ q ∈ kwd, q.1 ∈ kwo)
    (nd : ((norm ++ kwo).map G.nm).Nodup) : BndOk G fd ((norm ++ kwo).map G.nm) (fun pos kw => bindP norm kwo [] (kwd.map fun q => (q.1, V2.val q.2.1)) pos kw) := by
  intro s pos kw zs us ws vs ks pn φ O H B hK hb r1 r2 v1 v2
  have hb : bindP norm kwo [] (kwd.map fun q => (q.1, V2.val q.2.1)) pos kw = some zs := hb
  unfold bindP at hb
  dsimp only at hb
  split at hb
  · rename_i h0
    simp only [List.length_nil, Nat.sub_zero, List.drop_length, List.zip_nil_right, List.nil_append] at hb
    split at hb
    · rename_i h1
      simp only [Bool.and_eq_true, List.all_eq_true, decide_eq_true_eq] at h1
      obtain ⟨h1, h2⟩ := h1
      obtain ⟨m1, m2, m3⟩ := mapM_some hb
      have lp : vs.length = pos.length := RVs.len r1
      have lk : ks.length = kw.length := by rw [RVs.len r2, List.length_map]
      have lu : us.length = vs.length := v1.length.symm
      have lw : ws.length = ks.length := v2.length.symm
      obtain ⟨p1, p2, p3⟩ := t3_fst lp lu
      obtain ⟨k1, k2, k3⟩ := t3_fst (xs := kw.map (·.2)) (vs := ks) (us := ws) (by rw [List.length_map]; exact lk) lw
      -- the given ones, by name; those that fill up
      let giv : List (Nat × T3) := norm.zip (t3 pos vs us) ++ (kw.map (·.1)).zip (t3 (kw.map (·.2)) ks ws)
      let def_ : List (Nat × T3) := kwd.map fun q => (q.1, (V2.val q.2.1, q.2.2.1, q.2.2.2))
      have gm : ∀ {β : Type} (f : T3 → β), (giv.map fun p => (p.1, f p.2)) = norm.zip ((t3 pos vs us).map f) ++ (kw.map (·.1)).zip ((t3 (kw.map (·.2)) ks ws).map f) := fun {β} f => by
        show ((norm.zip (t3 pos vs us) ++ (kw.map (·.1)).zip (t3 (kw.map (·.2)) ks ws)).map fun p => (p.1, f p.2)) = _
        rw [List.map_append, List.zip_map_right, List.zip_map_right]
        rfl
      have g1 : (giv.map fun p => (p.1, p.2.1)) = norm.zip pos ++ kw := by
        rw [gm (fun t => t.1), p1, k1]
        congr 1
        exact (List.zip_of_prod rfl rfl).symm
      have g3 : (giv.map fun p => (p.1, p.2.2.2)) = norm.zip us ++ (kw.map (·.1)).zip ws := by rw [gm (fun t => t.2.2), p3, k3]
      have d1 : (def_.map fun p => (p.1, p.2.1)) = kwd.map fun q => (q.1, V2.val q.2.1) := by
        show (kwd.map _).map _ = _
        rw [List.map_map]
        rfl
      have a1 : ((giv ++ def_).map fun p => (p.1, p.2.1)) = norm.zip pos ++ kw ++ kwd.map fun q => (q.1, V2.val q.2.1) := by rw [List.map_append, g1, d1]
      have names : giv.map (·.1) = (norm.zip pos ++ kw).map (·.1) := by
        rw [← g1, List.map_map]
        rfl
      have inn : ∀ p ∈ giv, p.1 ∈ norm ++ kwo := fun p hp => by
        have : p.1 ∈ (norm.zip pos ++ kw).map (·.1) := by rw [← names]; exact List.mem_map.mpr ⟨p, hp, rfl⟩
        rw [List.map_append, List.mem_append] at this
        rcases this with z | z
        · obtain ⟨q, hq, e⟩ := List.mem_map.mp z
          rw [← e]
          exact List.mem_append_left _ (List.of_mem_zip (a := q.1) (b := q.2) hq).1
        · obtain ⟨q, hq, e⟩ := List.mem_map.mp z
          rw [← e]
          simpa using h1 q hq
      have innD : ∀ p ∈ def_, p.1 ∈ kwo := fun p hp => by
        obtain ⟨q, hq, e⟩ := List.mem_map.mp hp
        rw [← e]
        exact hkn q hq
      have innA : ∀ p ∈ giv ++ def_, p.1 ∈ norm ++ kwo := fun p hp => by
        rcases List.mem_append.mp hp with z | z
        · exact inn p z
        · exact List.mem_append_right _ (innD p z)
      have look : ∀ x ∈ norm ++ kwo, ∃ t, (giv ++ def_).lookup x = some t ∧ RV (G.at B) pn φ O H t.1 t.2.1 ∧ RelV t.2.1 t.2.2 := fun x hx => by
        obtain ⟨v, hv⟩ := m1 x hx
        rw [← a1, look_map (fun t : T3 => t.1)] at hv
        cases ht : (giv ++ def_).lookup x with
        | none => rw [ht] at hv; cases hv
        | some t =>
          have hm := look_mem ht
          rcases List.mem_append.mp hm with z | z
          · rcases List.mem_append.mp z with z | z
            · exact ⟨t, rfl, rvs_t3 r1 v1 t (List.of_mem_zip z).2⟩
            · exact ⟨t, rfl, rvs_t3 r2 v2 t (List.of_mem_zip z).2⟩
          · obtain ⟨q, hq, e⟩ := List.mem_map.mp z
            cases e
            exact ⟨_, rfl, hkv q hq B O H, hkr q hq⟩
      -- the answers
      obtain ⟨ts, hts⟩ := mapM_of (l := giv ++ def_) (ns := norm ++ kwo) fun x hx => let ⟨t, e, _⟩ := look x hx; ⟨t, e⟩
      obtain ⟨_, t2, t3'⟩ := mapM_some hts
      have get : ∀ (i : Nat) (t : T3), ts[i]? = some t → ∃ x, (norm ++ kwo)[i]? = some x ∧ (giv ++ def_).lookup x = some t := fun i t ht => by
        have hi : i < (norm ++ kwo).length := by rw [← t2]; exact (List.getElem?_eq_some_iff.mp ht).1
        have e := t3' i _ (List.getElem?_eq_getElem hi)
        rw [ht] at e
        exact ⟨_, List.getElem?_eq_getElem hi, e.symm⟩
      have good : ∀ (i : Nat) (t : T3), ts[i]? = some t → RV (G.at B) pn φ O H t.1 t.2.1 ∧ RelV t.2.1 t.2.2 := fun i t ht => by
        obtain ⟨x, hx, e⟩ := get i t ht
        obtain ⟨t', e', q⟩ := look x (List.mem_of_getElem? hx)
        rw [e] at e'
        cases e'
        exact q
      have hz : zs = ts.map (·.1) := by
        apply List.ext_getElem?
        intro i
        by_cases hi : i < (norm ++ kwo).length
        · have hx := List.getElem?_eq_getElem hi
          rw [m3 i _ hx, List.getElem?_map, t3' i _ hx, ← a1, look_map (fun t : T3 => t.1)]
        · rw [List.getElem?_eq_none (by omega), List.getElem?_eq_none (by rw [List.length_map]; omega)]
      refine ⟨ts.map (·.2.2), ts.map (·.2.1), ?_, ?_, ?_, by simp [t2]⟩
      · have ek : ((kw.map fun p => G.nm p.1).zip ws) = ((kw.map (·.1)).zip ws).map fun p => (G.nm p.1, p.2) := by
          rw [show (fun p : Nat × V2 => G.nm p.1) = G.nm ∘ (fun p => p.1) from rfl, ← List.map_map, List.zip_map_left]
          rfl
        have en : ((norm.map G.nm).zip us) = (norm.zip us).map fun p => (G.nm p.1, p.2) := by
          rw [List.zip_map_left]
          rfl
        have egiv : ((norm.map G.nm).zip us ++ (kw.map fun p => G.nm p.1).zip ws) = (giv.map fun p => (p.1, p.2.2.2)).map fun p => (G.nm p.1, p.2) := by
          rw [ek, en, g3, List.map_append]
        have edef : (kwd.map fun q => (G.nm q.1, q.2.2.2)) = (def_.map fun p => (p.1, p.2.2.2)).map fun p => (G.nm p.1, p.2) := by
          show _ = ((kwd.map _).map _).map _
          rw [List.map_map, List.map_map]
          rfl
        have eall : ((norm.map G.nm).zip us ++ (kw.map fun p => G.nm p.1).zip ws ++ kwd.map fun q => (G.nm q.1, q.2.2.2)) = ((giv ++ def_).map fun p => (p.1, p.2.2.2)).map fun p => (G.nm p.1, p.2) := by
          rw [egiv, edef, ← List.map_append, ← List.map_append]
        have inn3 : ∀ p ∈ ((giv ++ def_).map fun p => (p.1, p.2.2.2)), p.1 ∈ norm ++ kwo := fun p hp => by
          obtain ⟨q, hq, e⟩ := List.mem_map.mp hp
          rw [← e]
          exact innA q hq
        have inn4 : ∀ p ∈ (giv.map fun p => (p.1, p.2.2.2)), p.1 ∈ norm ++ kwo := fun p hp => by
          obtain ⟨q, hq, e⟩ := List.mem_map.mp hp
          rw [← e]
          exact inn q hq
        have inj := inj_of nd
        have lk3 : ∀ x ∈ norm ++ kwo, ((norm.map G.nm).zip us ++ (kw.map fun p => G.nm p.1).zip ws ++ kwd.map fun q => (G.nm q.1, q.2.2.2)).lookup (G.nm x) = ((giv ++ def_).lookup x).map fun t => t.2.2 := fun x hx => by
          rw [eall, look_nm inj hx _ inn3, look_map (fun t : T3 => t.2.2)]
        have lk4 : ∀ x ∈ norm ++ kwo, ((norm.map G.nm).zip us ++ (kw.map fun p => G.nm p.1).zip ws).lookup (G.nm x) = (giv.lookup x).map fun t => t.2.2 := fun x hx => by
          rw [egiv, look_nm inj hx _ inn4, look_map (fun t : T3 => t.2.2)]
        have ndk : ∀ x ∈ norm, x ∉ kwo := fun x hx hy => by
          rw [List.map_append, List.nodup_append] at nd
          exact nd.2.2 (G.nm x) (List.mem_map.mpr ⟨x, hx, rfl⟩) (G.nm x) (List.mem_map.mpr ⟨x, hy, rfl⟩) rfl
        have := bind_kwd (fd := fd) (pos := us) (kw := (kw.map fun p => G.nm p.1).zip ws) (kws := kwd.map fun q => (G.nm q.1, q.2.2.2)) (s := s) hpos hn hko hv hk hd hkd hK (fun q hq => by
            obtain ⟨p, hp, e⟩ := List.mem_map.mp hq
            cases e
            exact hks p hp) (by rw [List.length_map]; omega) (fun x hx => by
            have z := (List.of_mem_zip (a := x.1) (b := x.2) hx).1
            obtain ⟨q, hq, e⟩ := List.mem_map.mp z
            rw [← e, ← List.map_append]
            exact List.mem_map.mpr ⟨q.1, by simpa using h1 q hq, rfl⟩) (by
            rw [egiv, List.map_map]
            have e5 : (giv.map fun p => (p.1, p.2.2.2)).map ((fun p : Str × Value => p.1) ∘ fun p : Nat × Value => (G.nm p.1, p.2)) = (giv.map (·.1)).map G.nm := by
              rw [List.map_map, List.map_map]
              rfl
            rw [e5]
            rw [← names] at h2
            exact nodup_nm inj h2 fun x hx => by
              obtain ⟨p, hp, e⟩ := List.mem_map.mp hx
              rw [← e]
              exact inn p hp) (fun x hx => by
            obtain ⟨y, hy, rfl⟩ := List.mem_map.mp hx
            obtain ⟨t, e, _⟩ := look y (List.mem_append_left _ hy)
            rw [look_appN] at e
            have e0 : def_.lookup y = none := by
              cases q : def_.lookup y with
              | none => rfl
              | some t => exact absurd (innD _ (look_mem q)) (ndk y hy)
            rw [e0, Option.or_none] at e
            exact ⟨t.2.2, by rw [lk4 y (List.mem_append_left _ hy), e]; rfl⟩) (fun x hx => by
            obtain ⟨y, hy, rfl⟩ := List.mem_map.mp hx
            obtain ⟨t, e, _⟩ := look y (List.mem_append_right _ hy)
            exact ⟨t.2.2, by rw [lk3 y (List.mem_append_right _ hy), e]; rfl⟩) (fun x hx hy => by
            rw [List.map_append, List.nodup_append] at nd
            exact nd.2.2 x hx x hy rfl)
        have e9 : ((norm.map G.nm ++ kwo.map G.nm).filterMap fun n => (((norm.map G.nm).zip us ++ (kw.map fun p => G.nm p.1).zip ws ++ kwd.map fun q => (G.nm q.1, q.2.2.2)).lookup n).map (n, ·)) = ((norm ++ kwo).map G.nm).zip (ts.map (·.2.2)) := by
          rw [← List.map_append]
          refine filt_zip (by simp [t2]) fun i x hx => ?_
          rw [List.getElem?_map] at hx
          cases hy : (norm ++ kwo)[i]? with
          | none => rw [hy] at hx; cases hx
          | some y =>
            rw [hy] at hx
            cases hx
            rw [lk3 y (List.mem_of_getElem? hy), List.getElem?_map, t3' i y hy]
        rw [e9] at this
        exact this
      · refine paired_get (by simp) fun i a b h1 h2 => ?_
        rw [List.getElem?_map] at h1 h2
        cases e : ts[i]? with
        | none => rw [e] at h1; cases h1
        | some t => rw [e] at h1 h2; cases h1; cases h2; exact (good i t e).2
      · rw [hz]
        refine rvs_get (by simp) fun i a b h1 h2 => ?_
        rw [List.getElem?_map] at h1 h2
        cases e : ts[i]? with
        | none => rw [e] at h1; cases h1
        | some t => rw [e] at h1 h2; cases h1; cases h2; exact (good i t e).1
    · cases hb
  · cases hb
end PI

set_option maxRecDepth 100000
set_option maxHeartbeats 2000000
namespace PI
open PySem PySem.Spec PyProof.Rows L2
def exClsB (K : PySem.W.Frag) (C : Addr) : Bool := match K.lookup C with
  | some ⟨.type "type", _, .cls cd, sl⟩ => (match cd.mro, sl.toList with
    | .ref C' :: bm, [_, _, _, _, some (.builtin n), _] => decide (C' = C) && decide (n = "ValueError.__new__") && !cd.hasDel && cd.hasDict && PySem.HandSPX.refsVE bm
    | _, _ => false)
  | _ => false
theorem exClsB_ok {K : PySem.W.Frag} {C : Addr} (h : exClsB K C = true) : ∃ nm q N bs bm sn sub ab col dd k0 k1 k2 k3 k5, K.lookup C = some (excClassObj nm q C N bs bm true sn sub ab col dd k0 k1 k2 k3 k5 "ValueError.__new__") ∧ PySem.HandSPX.refsVE bm = true := by
  unfold exClsB at h
  split at h
  · rename_i od cd sl hk
    split at h
    · rename_i C' bm x0 x1 x2 x3 n x5 hm hs
      simp only [Bool.and_eq_true, decide_eq_true_eq, Bool.not_eq_true'] at h
      obtain ⟨⟨⟨⟨h1, h2⟩, h3⟩, h4⟩, h5⟩ := h
      subst h1 h2
      obtain ⟨nm, bs, mro, ns, qn, hd, sn, sb, ab, col, del⟩ := cd
      dsimp only at hm h3 h4
      subst hm h3 h4
      have es : sl = #[x0, x1, x2, x3, some (.builtin "ValueError.__new__"), x5] := by
        apply Array.toList_inj.mp
        rw [hs]
      subst es
      exact ⟨_, _, _, _, _, _, _, _, _, _, _, _, _, _, _, hk, h5⟩
    · cases h
  · cases h
/-- all that is asked of a class that is raised -/
def exB (K : PySem.W.Frag) (C fI : Addr) (fs : List Str) : Bool :=
  exClsB K C && decide (PySem.W.findIn K (.ref C) "__setattr__" = some (some (.builtin "object.__setattr__"))) && decide (PySem.W.subIn K (.ref C) (.type "BaseException") = some true) && decide (PySem.W.typeIn K (.ref C) = some (.type "type")) && PySem.W.keepIn K (.ref C)
    && xfB K C && decide (PySem.W.findIn K (.ref C) "__class__" = some (some (.builtin "object.__class__"))) && decide (PySem.W.specialIn K (.builtin "object.__class__") "__get__" = some (some (.builtin "getset_descriptor.__get__"))) && decide (PySem.W.takesIn K (.builtin "object.__class__") = some true) && decide (PySem.W.mroIn K C (.type "object") = some true)
    && decide (PySem.W.findIn K (.ref C) "__init__" = some (some (.ref fI))) && decide (PySem.W.typeIn K (.ref fI) = some (.type "function")) && fs.all fun f => decide (PySem.W.findIn K (.ref C) f = some none)
structure ExF (K : PySem.W.Frag) (C fI : Addr) (fs : List Str) : Prop where
  o : OexC K C
  x : XfC K C
  e : ExcC K C
  i : PySem.W.findIn K (.ref C) "__init__" = some (some (.ref fI))
  t : PySem.W.typeIn K (.ref fI) = some (.type "function")
  f : ∀ f ∈ fs, PySem.W.findIn K (.ref C) f = some none
theorem exB_ok {K : PySem.W.Frag} {C fI : Addr} {fs : List Str} (h : exB K C fI fs = true) : ExF K C fI fs := by
  unfold exB at h
  simp only [Bool.and_eq_true, decide_eq_true_eq, List.all_eq_true] at h
  obtain ⟨⟨⟨⟨⟨⟨⟨⟨⟨⟨⟨⟨h1, h2⟩, h3⟩, h4⟩, h5⟩, h6⟩, h7⟩, h8⟩, h9⟩, h10⟩, h11⟩, h12⟩, h13⟩ := h
  have x := xfB_ok h6
  exact ⟨⟨exClsB_ok h1, h2, h3, h4, h5⟩, x, ⟨x.ga, x.gg, x.exC, x.hdC, h7, h8, h9, h10⟩, h11, h12, h13⟩
/-- how C is asked of D's -/
def relB (K : PySem.W.Frag) (D C : Addr) (b : Bool) : Bool := decide (PySem.W.kitOne K (.ref D) (.ref C) = some b) && decide (PySem.W.exmOne K (.ref D) (.ref C) = some b)
def veB (K : PySem.W.Frag) (D : Addr) : Bool := decide (PySem.W.kitOne K (.ref D) (.type "ValueError") = some true)
/-- the text of an __init__ that stores its parameters -/
def initOkB (ps : List Str) (l : List (Str × Nat)) (d : He.DefD) : Bool :=
  d.params.posonlyargs.isEmpty && decide (d.params.args.map (·.arg) = ps) && d.params.kwonlyargs.isEmpty && d.params.vararg.isNone && d.params.kwarg.isNone && d.dfl.isEmpty && d.kwd.isEmpty && !l.isEmpty && decide (l.length < 900) && l.all (fun p => decide (p.2 < ps.length)) && initB ps d.scope l d.body
end PI

set_option maxRecDepth 100000
set_option maxHeartbeats 2000000
namespace PI
open PySem PySem.Spec PyProof.Rows L2
theorem zip_look {α : Type} : ∀ {ps : List Str} {us : List α}, ps.Nodup → us.length = ps.length → ∀ (i : Nat) (x : Str), ps[i]? = some x → us[i]? = (ps.zip us).lookup x
  | [], _, _, _, i, x, h => by simp at h
  | p :: ps, [], _, hl, _, _, _ => by cases hl
  | p :: ps, u :: us, nd, hl, i, x, h => by
    rw [List.nodup_cons] at nd
    cases i with
    | zero =>
      simp at h
      subst h
      simp
    | succ i =>
      have h' : ps[i]? = some x := by simpa using h
      have hx : x ≠ p := fun z => nd.1 (by rw [← z]; exact List.mem_of_getElem? h')
      have := zip_look nd.2 (by simpa using hl) i x h'
      rw [List.zip_cons_cons, List.lookup_cons, show (x == p) = false from beq_eq_false_iff_ne.mpr hx]
      simpa using this
theorem binds_plain {fd : FuncData} {ps : List Str} (hpos : fd.params.posonlyargs = []) (hn : fd.params.args.map (·.arg) = ps) (hko : fd.params.kwonlyargs = []) (hv : fd.params.vararg = none) (hk : fd.params.kwarg = none) (hd : fd.defaults = .none) (nd : ps.Nodup) (us : List Value) (hl : us.length = ps.length) :
    bindArgs fd ⟨us, []⟩ = pure (ps.zip us) := by
  have e : ps.zip us ++ ([] : List (Str × Value)) = ps.zip us := List.append_nil _
  have := bind_plain (fd := fd) (pos := us) (kw := []) (norm := ps) (kwo := []) hpos hn (by rw [hko]; rfl) hv hk hd (by omega) (fun x hx => by cases hx) (by rw [e, List.map_fst_zip (by omega)]; exact nd) (fun x hx => by
    rw [List.append_nil] at hx
    obtain ⟨i, hi⟩ := List.getElem?_of_mem hx
    have hlt : i < us.length := by rw [hl]; exact (List.getElem?_eq_some_iff.mp hi).1
    rw [e, ← zip_look nd hl i x hi]
    exact ⟨_, List.getElem?_eq_getElem hlt⟩)
  rw [this, e, List.append_nil]
  exact congrArg pure (filt_zip hl fun i x hx => zip_look nd hl i x hx)
theorem exc_ok {G : Gd} {nm : Nat → Str} {mg : Str → Option Value} {C n : Nat} {l : List (Nat × Nat)} {ps : List Str} {d : He.DefD} {fI : Addr} {fd : FuncData} (hm : mg (nm C) = some (.ref (G.cn C))) (F : FunD G.K d.name d.qual d.params d.body d.scope (d.dvs G.K) (d.kws G.K) fI fd) (S : FnScope ps ps d.scope)
    (T : ExF G.K (G.cn C) fI (l.map fun p => nm p.1)) (hi : initOkB ps (l.map fun p => (nm p.1, p.2)) d = true) (hn : ps.length = n + 1) (hl : ∀ p ∈ l, 0 < p.2 ∧ p.2 ≤ n) : ExcOk G nm mg C n l := by
  unfold initOkB at hi
  simp only [Bool.and_eq_true, decide_eq_true_eq, List.all_eq_true, List.isEmpty_iff, Option.isNone_iff_eq_none, Bool.not_eq_true'] at hi
  obtain ⟨⟨⟨⟨⟨⟨⟨⟨⟨⟨b1, b2⟩, b3⟩, b4⟩, b5⟩, b6⟩, b7⟩, b8⟩, b9⟩, b10⟩, b11⟩ := hi
  have e1 : d.dvs G.K = [] := by unfold He.DefD.dvs; rw [b6]; rfl
  have e2 : d.kws G.K = [] := by unfold He.DefD.kws; rw [b7]; rfl
  rw [e1, e2] at F
  cases hll : (l.map fun p => (nm p.1, p.2)) with
  | nil => rw [hll] at b8; cases b8
  | cons q r =>
    obtain ⟨g, i⟩ := q
    rw [hll] at b9 b10 b11
    refine ⟨fI, fd, ps, hm, T.o, T.i, T.t, fun P w base => ?_, fun p hp => T.f _ (List.mem_map.mpr ⟨p, hp, rfl⟩), hl, ?_, hn⟩
    · rw [hll]
      exact init_ok F S b11 (by simp at b9; omega) b10
    · exact F.bindsN fun kV doc pm an cdv ct us hus => binds_plain b1 b2 b3 b4 b5 rfl S.nd us hus
end PI

set_option maxRecDepth 100000
set_option maxHeartbeats 1000000
namespace PI
open PySem PySem.Spec PyProof.Rows L2

/-- one def: its number, what it is, its slots' names -/
structure En where
  id : Nat
  fn : Fn
  N : List Str
/-- a law's table -/
structure LD where
  nms : List (Nat × Str)
  gl : List (Nat × D)
  fr : List Str
  fs : List En
  /-- classes that are raised: number, arguments, (field, parameter) -/
  ex : List (Nat × Nat × List (Nat × Nat)) := []
  /-- classes that are asked: number, its own ancestors (itself too) -/
  cs : List (Nat × List Nat) := []
def LD.nm (l : LD) (i : Nat) : Str := (l.nms.lookup i).getD ⟨#[]⟩
def LD.tb (l : LD) : Tb := ⟨l.nm, l.fs.map (·.id), l.gl.map (·.1), l.fr, l.cs.map (·.1), l.ex.map (·.1)⟩
def LD.exOf (l : LD) (C : Nat) : Option (Nat × List (Nat × Nat)) := l.ex.lookup C
/-- is D's class below C's -/
def LD.subOf (l : LD) (D C : Nat) : Option Bool := if l.ex.any (fun e => e.1 == D) && l.cs.any (fun e => e.1 == C) then (l.cs.lookup D).map (·.contains C) else none
def LD.kitOf (l : LD) : TV → IC → Option Bool
  | .ty a, .ty b => kitB a b
  | .exn D, .own C => l.subOf D C
  | .exn D, .ty b => if b == "ValueError" && l.ex.any (fun e => e.1 == D) then some true else none
  | _, _ => none
def LD.fnOf (l : LD) (f : Nat) : Option Fn := (l.fs.find? fun e => e.id == f).map (·.fn)
def LD.globOf (l : LD) (g : Nat) : D := (l.gl.lookup g).getD .non
def LD.pg (l : LD) : Prog := ⟨l.fnOf, l.globOf, l.kitOf, l.exOf, l.subOf⟩
def scB (N ps : List Str) (sc : Scope) : Bool := (match sc.kind with
  | .function => true
  | _ => false) && !sc.isCoroutine && !sc.isGenerator && decide N.Nodup && decide (N.take ps.length = ps) && ps.all (fun x => match sc.names.lookup x with
  | some .local => true
  | some .cell => true
  | _ => false) && sc.names.all fun y => decide (y.2 ≠ .free)
theorem scB_ok {N ps : List Str} {sc : Scope} (h : scB N ps sc = true) : FnScope N ps sc := by
  unfold scB at h
  simp only [Bool.and_eq_true, decide_eq_true_eq, List.all_eq_true, Bool.not_eq_true'] at h
  obtain ⟨⟨⟨⟨⟨⟨h1, h2⟩, h3⟩, h4⟩, h5⟩, h6⟩, h7⟩ := h
  refine ⟨?_, h2, h3, h4, h5, fun x hx => ?_, h7⟩
  · split at h1
    · assumption
    · cases h1
  · have := h6 x hx
    split at this
    · exact .inl (by assumption)
    · exact .inr (by assumption)
    · cases this
def okEn (T : Tb) (e : En) (d : He.DefD) : Bool :=
  decide (d.at_ = (T.nm e.id, none)) && d.params.posonlyargs.isEmpty && decide (d.params.args.map (·.arg) = e.fn.norm.map T.nm) && decide (d.params.kwonlyargs.map (·.arg) = e.fn.kwo.map T.nm) && d.params.vararg.isNone && d.params.kwarg.isNone
    && e.fn.dfl.isEmpty && e.fn.kwd.all (fun p => e.fn.kwo.contains p.1) && d.dfl.isEmpty && scB e.N ((e.fn.norm ++ e.fn.kwo).map T.nm) d.scope && decide (e.N.length = e.fn.slots) && okB T e.fn.body d.scope e.N d.body
def okEns (T : Tb) : List En → List He.DefD → Bool
  | [], _ => true
  | e :: es, d :: ds => okEn T e d && okEns T es ds
  | _ :: _, [] => false
def faG (l : LD) : Nat × D → He.Fa
  | (g, .int i) => .int (l.nm g) i
  | (g, .str s) => .str (l.nm g) ⟨s.toArray⟩
  | (g, _) => .glo (l.nm g)
def LD.fa (l : LD) : List He.Fa := l.gl.map (faG l) ++ (l.fr.map He.Fa.free ++ ((l.fs.map fun e => .glo (l.nm e.id)) ++ ((l.cs.map fun c => .glo (l.nm c.1)) ++ l.ex.map fun c => .glo (l.nm c.1))))
def glB1 : D → Bool
  | .int _ => true
  | .str s => s.all (fun c => decide (c < 0x110000)) && decide (s.length ≤ 1000)
  | _ => false
/-- a raised class's __init__ is in the texts -/
def okEx (l : LD) (e : Nat × Nat × List (Nat × Nat)) (d : He.DefD) : Bool :=
  let ps := d.params.args.map (·.arg)
  decide (d.at_ = (l.nm e.1, some ("__init__" : Str))) && scB ps ps d.scope && initOkB ps (e.2.2.map fun p => (l.nm p.1, p.2)) d && decide (ps.length = e.2.1 + 1) && e.2.2.all (fun p => decide (0 < p.2) && decide (p.2 ≤ e.2.1) && l.nms.any (fun q => q.1 == p.1))
def LD.chk (l : LD) (fn : List He.DefD) : Bool := (l.ex.all (fun e => fn.any (okEx l e)) && decide (l.nms.map (·.1)).Nodup && decide (l.nms.map (·.2)).Nodup && decide (l.ex.map (·.1)).Nodup && l.nms.all (fun p => decide (p.2 ≠ ⟨#[]⟩))) && (okEns l.tb l.fs fn && l.gl.all (fun p => glB1 p.2) && decide (l.gl.map (·.1)).Nodup && decide (l.fs.map (·.id)).Nodup)
def kwIB : List D → List Value → Bool
  | [], [] => true
  | .int i :: r, .int j _ :: q => decide (i = j) && kwIB r q
  | _, _ => false
/-- a default as it stands -/
def kwVB (K : PySem.W.Frag) : D → Value → Bool
  | .non, .none => true
  | .bl b, .bool c => b == c
  | .int i, .int j _ => decide (i = j)
  | .tup ds, .ref a => (match K.lookup a with
    | some ⟨.type "tuple", _, .seq its _, _⟩ => kwIB ds its.toList && decide (its.size ≤ sizeLine)
    | _ => false)
  | _, _ => false
def kwLB (K : PySem.W.Frag) (nm : Nat → Str) (Dd : Addr) (kwd : List (Nat × D)) : Bool := kwd.all fun p => (match PySem.W.nsIn K Dd (nm p.1) with
  | some (some u) => kwVB K p.2 u
  | _ => false)
def kwKB (K : PySem.W.Frag) (nm : Nat → Str) (kwd : List (Nat × D)) : Value → Bool
  | .ref Dd => kwLB K nm Dd kwd
  | _ => false
def kwFB (K : PySem.W.Frag) (nm : Nat → Str) (f : Addr) (kwd : List (Nat × D)) : Bool := kwd.isEmpty || (match K.lookup f with
  | some ⟨_, _, .func fd, _⟩ => kwKB K nm kwd fd.kwdefaults
  | _ => false)
theorem kwIB_ok {G : Gd} {O : Addr → Prop} {H : Hp} : ∀ {ds : List D} {us : List Value}, kwIB ds us = true → ∃ vs, Vals vs us ∧ ∀ (G : Gd) (O : Addr → Prop) (H : Hp), RDs G O H ds vs
  | [], [], _ => ⟨[], .nil, fun _ _ _ => rfl⟩
  | [], _ :: _, h => ff h
  | .int i :: r, [], h => ff h
  | .int i :: r, u :: q, h => by
    cases u with
    | int j t =>
      have h : (decide (i = j) && kwIB r q) = true := h
      obtain ⟨vs, h1, h2⟩ := kwIB_ok (G := G) (O := O) (H := H) (a2 h)
      exact ⟨.int i :: vs, .cons ⟨t, by rw [of_decide_eq_true (a1 h)]⟩ h1, fun G O H => ⟨_, _, rfl, rfl, h2 G O H⟩⟩
    | _ => exact ff h
  | .non :: _, _, h | .bl _ :: _, _, h | .str _ :: _, _, h | .tup _ :: _, _, h | .lst _ :: _, _, h | .dct _ :: _, _, h | .ins _ _ :: _, _, h => ff (by cases ‹List Value› <;> exact h)
theorem kwVB_ok {K : PySem.W.Frag} {d : D} {u : Value} (h : kwVB K d u = true) : ∃ v, RelV v u ∧ ∀ (G : Gd), G.K = K → ∀ (O : Addr → Prop) (H : Hp), RD G O H d v := by
  cases d with
  | non => cases u <;> first | exact ⟨.non, rfl, fun _ _ _ _ => rfl⟩ | exact ff h
  | bl b => cases u with
    | bool c =>
      have e : b = c := by simpa [kwVB] using h
      subst e
      exact ⟨.bl b, rfl, fun _ _ _ _ => rfl⟩
    | _ => exact ff h
  | int i => cases u with
    | int j t =>
      have e : i = j := of_decide_eq_true h
      exact ⟨.int i, ⟨t, by rw [e]⟩, fun _ _ _ _ => rfl⟩
    | _ => exact ff h
  | tup ds =>
    cases u with
    | ref a =>
      have h : (match K.lookup a with
        | some ⟨.type "tuple", _, .seq its _, _⟩ => kwIB ds its.toList && decide (its.size ≤ sizeLine)
        | _ => false) = true := h
      split at h
      · rename_i od its n sl hk
        obtain ⟨vs, h1, h2⟩ := kwIB_ok (G := ⟨K, fun _ => 0, fun _ => ⟨#[]⟩, fun _ => False⟩) (O := fun _ => False) (H := fun _ => none) (a1 h)
        refine ⟨.ref a, rfl, fun G e O H => ⟨a, vs, rfl, .inr fun H' => .inr ⟨⟨.type "tuple", od, .seq its n, sl⟩, its, n, ?_, rfl, rfl, of_decide_eq_true (a2 h), h1⟩, h2 G O H⟩⟩
        rw [e]
        exact hk
      · cases h
    | _ => exact ff h
  | _ => cases u <;> exact ff h
theorem kwLB_ok {K : PySem.W.Frag} {nm : Nat → Str} {Dd : Addr} : ∀ {kwd : List (Nat × D)}, kwLB K nm Dd kwd = true → ∃ l : List (Nat × D × V × Value), l.map (fun q => (q.1, q.2.1)) = kwd ∧ ∀ q ∈ l, PySem.W.nsIn K Dd (nm q.1) = some (some q.2.2.2) ∧ RelV q.2.2.1 q.2.2.2 ∧ ∀ (G : Gd), G.K = K → ∀ (O : Addr → Prop) (H : Hp), RD G O H q.2.1 q.2.2.1
  | [], _ => ⟨[], rfl, fun q hq => by cases hq⟩
  | p :: r, h => by
    have h1 : (match PySem.W.nsIn K Dd (nm p.1) with
      | some (some u) => kwVB K p.2 u
      | _ => false) = true := a1 h
    obtain ⟨l, e, hl⟩ := kwLB_ok (K := K) (nm := nm) (Dd := Dd) (kwd := r) (a2 h)
    split at h1
    · rename_i u hu
      obtain ⟨v, r1, r2⟩ := kwVB_ok h1
      refine ⟨(p.1, p.2, v, u) :: l, by rw [List.map_cons, e], fun q hq => ?_⟩
      rcases List.mem_cons.mp hq with rfl | hq
      · exact ⟨hu, r1, r2⟩
      · exact hl q hq
    · cases h1
/-- what the head's look asks of the classes -/
def LD.clB (l : LD) (K : PySem.W.Frag) : Bool := (l.fs.all fun e => kwFB K l.nm (He.ga K (l.nm e.id)) e.fn.kwd) && l.ex.all fun e =>
  exB K (He.ga K (l.nm e.1)) (He.fAd K (l.nm e.1, some "__init__")) (e.2.2.map fun p => l.nm p.1) && veB K (He.ga K (l.nm e.1)) && l.cs.all fun c => (match l.subOf e.1 c.1 with
    | some b => relB K (He.ga K (l.nm e.1)) (He.ga K (l.nm c.1)) b
    | none => true)
theorem okEns_get {T : Tb} : ∀ {es : List En} {ds : List He.DefD}, okEns T es ds = true → ∀ e ∈ es, ∃ d ∈ ds, okEn T e d = true
  | [], _, _, e, he => by cases he
  | _ :: _, [], h, _, _ => ff h
  | x :: es, d :: ds, h, e, he => by
    rcases List.mem_cons.mp he with rfl | he
    · exact ⟨d, List.mem_cons_self .., a1 h⟩
    · obtain ⟨d', h1, h2⟩ := okEns_get (a2 h) e he
      exact ⟨d', List.mem_cons_of_mem _ h1, h2⟩
section
variable {l : LD} {fn : List He.DefD} {K : PySem.W.Frag} {h : Heap} {mg : Str → Option Value}
abbrev gdOf (l : LD) (K : PySem.W.Frag) : Gd := ⟨K, fun C => He.ga K (l.nm C), l.nm, fun _ => False⟩
theorem look_of {α : Type} {x : Nat} {v : α} : ∀ {l : List (Nat × α)}, (l.map (·.1)).Nodup → (x, v) ∈ l → l.lookup x = some v
  | [], _, h => by cases h
  | (y, w) :: r, nd, h => by
    rw [List.map_cons, List.nodup_cons] at nd
    rw [List.lookup_cons]
    by_cases e : x = y
    · subst e
      rw [show (x == x) = true from beq_iff_eq.mpr rfl]
      rcases List.mem_cons.mp h with h | h
      · cases h; rfl
      · exact absurd (List.mem_map.mpr ⟨_, h, rfl⟩) nd.1
    · rw [show (x == y) = false from beq_eq_false_iff_ne.mpr e]
      rcases List.mem_cons.mp h with h | h
      · cases h; exact absurd rfl e
      · exact look_of nd.2 h
theorem find_of : ∀ {es : List En}, (es.map (·.id)).Nodup → ∀ e ∈ es, es.find? (fun x => x.id == e.id) = some e
  | [], _, e, he => by cases he
  | x :: es, nd, e, he => by
    rw [List.map_cons, List.nodup_cons] at nd
    rw [List.find?_cons]
    rcases List.mem_cons.mp he with rfl | he
    · simp
    · have : x.id ≠ e.id := fun z => nd.1 (List.mem_map.mpr ⟨e, he, z.symm⟩)
      rw [show (x.id == e.id) = false from beq_eq_false_iff_ne.mpr this]
      exact find_of nd.2 e he
theorem fact_of (c : He.SaysD l.fa fn K) {f : He.Fa} (hf : f ∈ l.fa) : f.ok K = true := by
  obtain ⟨i, hi⟩ := List.getElem?_of_mem hf
  exact c.fact i hi
theorem mem_look {α : Type} {x : Nat} {v : α} : ∀ {l : List (Nat × α)}, l.lookup x = some v → (x, v) ∈ l
  | [], h => by cases h
  | (y, w) :: r, h => by
    rw [List.lookup_cons] at h
    by_cases e : x = y
    · subst e
      rw [show (x == x) = true from beq_iff_eq.mpr rfl] at h
      cases h
      exact List.mem_cons_self ..
    · rw [show (x == y) = false from beq_eq_false_iff_ne.mpr e] at h
      exact List.mem_cons_of_mem _ (mem_look h)
theorem any_key {α : Type} {x : Nat} {l : List (Nat × α)} (h : l.any (fun e => e.1 == x) = true) : ∃ v, (x, v) ∈ l := by
  obtain ⟨⟨y, v⟩, hm, e⟩ := List.any_eq_true.mp h
  have : y = x := by simpa using e
  subst this
  exact ⟨v, hm⟩
/-- the parts of the check -/
structure Chk (l : LD) (fn : List He.DefD) : Prop where
  ex : ∀ e ∈ l.ex, ∃ d ∈ fn, okEx l e d = true
  k1 : (l.nms.map (·.1)).Nodup
  k2 : (l.nms.map (·.2)).Nodup
  k3 : (l.ex.map (·.1)).Nodup
  k4 : ∀ p ∈ l.nms, p.2 ≠ ⟨#[]⟩
  old : (okEns l.tb l.fs fn && l.gl.all (fun p => glB1 p.2) && decide (l.gl.map (·.1)).Nodup && decide (l.fs.map (·.id)).Nodup) = true
theorem chk_of (h : l.chk fn = true) : Chk l fn := by
  unfold LD.chk at h
  have h1 := a1 h
  refine ⟨fun e he => ?_, of_decide_eq_true (a2 (a1 (a1 (a1 h1)))), of_decide_eq_true (a2 (a1 (a1 h1))), of_decide_eq_true (a2 (a1 h1)), fun p hp => of_decide_eq_true (List.all_eq_true.mp (a2 h1) p hp), a2 h⟩
  have := List.all_eq_true.mp (a1 (a1 (a1 (a1 h1)))) e he
  obtain ⟨d, hd, ok⟩ := List.any_eq_true.mp this
  exact ⟨d, hd, ok⟩
/-- a name is one number's -/
theorem nm_inj (c : Chk l fn) {f : Nat} (hf : l.nms.any (fun q => q.1 == f) = true) (g : Nat) (h : l.nm g = l.nm f) : g = f := by
  obtain ⟨y, hy⟩ := any_key hf
  have e1 : l.nm f = y := by unfold LD.nm; rw [look_of c.k1 hy]; rfl
  rw [e1] at h
  unfold LD.nm at h
  cases q : l.nms.lookup g with
  | none => rw [q] at h; exact absurd h.symm (c.k4 _ hy)
  | some z =>
    rw [q] at h
    have hz := mem_look q
    have ez : z = y := h
    subst ez
    have nd := c.k2
    have go : ∀ {l : List (Nat × Str)}, (l.map (·.2)).Nodup → (g, z) ∈ l → (f, z) ∈ l → g = f := fun {l} => by
      induction l with
      | nil => intro _ h1; cases h1
      | cons p r ih =>
        intro nd h1 h2
        rw [List.map_cons, List.nodup_cons] at nd
        rcases List.mem_cons.mp h1 with e1 | h1
        · rcases List.mem_cons.mp h2 with e2 | h2
          · rw [← e1] at e2
            exact (congrArg Prod.fst e2).symm
          · exact absurd (List.mem_map.mpr ⟨_, h2, by rw [← e1]⟩) nd.1
        · rcases List.mem_cons.mp h2 with e2 | h2
          · exact absurd (List.mem_map.mpr ⟨_, h1, by rw [← e2]⟩) nd.1
          · exact ih nd.2 h1 h2
    exact go nd hz hy
theorem ex_facts (cb : l.clB K = true) {e : Nat × Nat × List (Nat × Nat)} (he : e ∈ l.ex) : ExF K (He.ga K (l.nm e.1)) (He.fAd K (l.nm e.1, some "__init__")) (e.2.2.map fun p => l.nm p.1) ∧ veB K (He.ga K (l.nm e.1)) = true ∧ ∀ c ∈ l.cs, ∀ b, l.subOf e.1 c.1 = some b → relB K (He.ga K (l.nm e.1)) (He.ga K (l.nm c.1)) b = true := by
  have h := List.all_eq_true.mp (a2 cb) e he
  refine ⟨exB_ok (a1 (a1 h)), a2 (a1 h), fun c hc b hb => ?_⟩
  have := List.all_eq_true.mp (a2 h) c hc
  rw [hb] at this
  exact this
theorem sub_facts (cb : l.clB K = true) {D C : Nat} {b : Bool} (h : l.subOf D C = some b) : relB K (He.ga K (l.nm D)) (He.ga K (l.nm C)) b = true := by
  have h0 := h
  unfold LD.subOf at h
  by_cases q : (l.ex.any (fun e => e.1 == D) && l.cs.any (fun e => e.1 == C)) = true
  · obtain ⟨v, hv⟩ := any_key (a1 q)
    obtain ⟨w, hw⟩ := any_key (a2 q)
    exact (ex_facts cb hv).2.2 _ hw b h0
  · rw [if_neg q] at h; cases h
theorem fa_cs {e : Nat × List Nat} (he : e ∈ l.cs) : He.Fa.glo (l.nm e.1) ∈ l.fa := by
  unfold LD.fa
  simp only [List.mem_append]
  exact .inr (.inr (.inr (.inl (List.mem_map.mpr ⟨e, he, rfl⟩))))
theorem fa_ex {e : Nat × Nat × List (Nat × Nat)} (he : e ∈ l.ex) : He.Fa.glo (l.nm e.1) ∈ l.fa := by
  unfold LD.fa
  simp only [List.mem_append]
  exact .inr (.inr (.inr (.inr (List.mem_map.mpr ⟨e, he, rfl⟩))))
theorem exc_of (X : K.In h) (G : h.Ns mainGlobals mg) (c : He.SaysD l.fa fn K) (C0 : Chk l fn) (cb : l.clB K = true) {C n : Nat} {ll : List (Nat × Nat)} (hm : (C, n, ll) ∈ l.ex) : ExcOk (gdOf l K) l.nm mg C n ll := by
  have T := (ex_facts cb hm).1
  obtain ⟨d, hd, ok⟩ := C0.ex _ hm
  obtain ⟨i, hi⟩ := List.getElem?_of_mem hd
  obtain ⟨fd, F⟩ := c.def_ i hi
  unfold okEx at ok
  simp only [Bool.and_eq_true, decide_eq_true_eq, List.all_eq_true] at ok
  obtain ⟨⟨⟨⟨ea, o2⟩, o3⟩, o4⟩, o5⟩ := ok
  rw [ea] at F
  have hg := He.glo_ok X G (fact_of c (fa_ex hm))
  refine exc_ok (G := gdOf l K) (nm := l.nm) (mg := mg) (C := C) (n := n) (l := ll) (d := d) (fI := He.fAd K (l.nm C, some ("__init__" : Str))) (fd := fd) (ps := d.params.args.map (·.arg)) ?h1 ?h2 ?h3 ?h4 ?h5 ?h6 ?h7
  case h1 => exact hg
  case h2 => exact F
  case h3 => exact scB_ok o2
  case h4 => exact T
  case h5 => exact o3
  case h6 => exact o4
  case h7 => exact fun p hp => (o5 p hp).1
theorem ft_of (X : K.In h) (G : h.Ns mainGlobals mg) (c : He.SaysD l.fa fn K) (chk0 : l.chk fn = true) (cb : l.clB K = true) : Ft (gdOf l K) l.tb l.pg mg where
  nm := rfl
  free := fun x hx => He.free_ok X G (fact_of c (List.mem_append_right _ (List.mem_append_left _ (List.mem_map.mpr ⟨x, hx, rfl⟩))))
  glob := fun g hg => by
    have chk := (chk_of chk0).old
    obtain ⟨⟨g', d⟩, hm, rfl⟩ := List.mem_map.mp hg
    have f1 := fact_of c (f := faG l (g', d)) (List.mem_append_left _ (List.mem_map.mpr ⟨_, hm, rfl⟩))
    have f2 : l.pg.glob g' = d := by
      show (l.gl.lookup g').getD .non = d
      rw [look_of (of_decide_eq_true (a2 (a1 chk))) hm]
      rfl
    have f3 : glB1 d = true := List.all_eq_true.mp (a2 (a1 (a1 chk))) _ hm
    cases d <;> first | exact ff f3 | skip
    · rename_i i
      obtain ⟨t, e⟩ := He.int_ok X G f1
      exact ⟨.int i, _, e, ⟨t, rfl⟩, fun B O H => by rw [f2]; exact rfl⟩
    · rename_i s
      obtain ⟨t, e⟩ := He.str_ok X G f1
      refine ⟨.str ⟨s.toArray⟩, _, e, ⟨t, rfl⟩, fun B O H => ?_⟩
      rw [f2]
      refine ⟨rfl, fun c hc => of_decide_eq_true (List.all_eq_true.mp (a1 f3) c hc), ?_⟩
      have : s.length ≤ 1000 := of_decide_eq_true (a2 f3)
      show s.length ≤ 16777216
      omega
  kit := fun t c b e => by
    cases t with
    | own C => cases c <;> cases e
    | ty n =>
      cases c with
      | own C => cases e
      | ty m => exact kit_ty e
    | exn D =>
      cases c with
      | own C =>
        have z : PySem.W.kitOne K (.ref (He.ga K (l.nm D))) (.ref (He.ga K (l.nm C))) = some b := of_decide_eq_true (a1 (sub_facts cb (show l.subOf D C = some b from e)))
        exact z
      | ty m =>
        have e : (if (m == "ValueError" && l.ex.any (fun e => e.1 == D)) = true then some true else none) = some b := e
        by_cases q : (m == "ValueError" && l.ex.any (fun e => e.1 == D)) = true
        · rw [if_pos q] at e
          cases e
          have em : m = "ValueError" := by simpa using a1 q
          subst em
          obtain ⟨v, hv⟩ := any_key (a2 q)
          have z : PySem.W.kitOne K (.ref (He.ga K (l.nm D))) (.type "ValueError") = some true := of_decide_eq_true (ex_facts cb hv).2.1
          exact z
        · rw [if_neg q] at e; cases e
  own := fun C c b e => by cases c <;> cases e
  ownE := fun D c b e => by
    have : ∃ v, (D, v) ∈ l.ex := by
      cases c with
      | own C =>
        have e : l.subOf D C = some b := e
        unfold LD.subOf at e
        by_cases q : (l.ex.any (fun e => e.1 == D) && l.cs.any (fun e => e.1 == C)) = true
        · exact any_key (a1 q)
        · rw [if_neg q] at e; cases e
      | ty m =>
        have e : (if (m == "ValueError" && l.ex.any (fun e => e.1 == D)) = true then some true else none) = some b := e
        by_cases q : (m == "ValueError" && l.ex.any (fun e => e.1 == D)) = true
        · exact any_key (a2 q)
        · rw [if_neg q] at e; cases e
    obtain ⟨v, hv⟩ := this
    exact (ex_facts cb hv).1.e
  sub := fun D C b e => of_decide_eq_true (a2 (sub_facts cb (show l.subOf D C = some b from e)))
  xf := fun C f e => by
    have e : excFld (l.ex.lookup C) f = true := e
    cases q : l.ex.lookup C with
    | none => rw [q] at e; cases e
    | some nl =>
      rw [q] at e
      have hm := mem_look q
      obtain ⟨T, _, _⟩ := ex_facts cb hm
      obtain ⟨⟨f', i⟩, hp, e2⟩ := List.any_eq_true.mp (show nl.2.any (fun p => p.1 == f) = true from e)
      have e3 : f' = f := by simpa using e2
      subst e3
      have C0 := chk_of chk0
      obtain ⟨d, hd, ok⟩ := C0.ex _ hm
      have := List.all_eq_true.mp (a2 ok) _ hp
      exact ⟨T.x, T.f _ (List.mem_map.mpr ⟨_, hp, rfl⟩), nm_inj C0 (a2 this)⟩
  cls := fun C hC => by
    obtain ⟨e, he, rfl⟩ := List.mem_map.mp hC
    exact He.glo_ok X G (fact_of c (fa_cs he))
  exc := fun C hC n ll e => exc_of X G c (chk_of chk0) cb (mem_look (show l.ex.lookup C = some (n, ll) from e))
  fns := fun f hf => by
    have chk := (chk_of chk0).old
    obtain ⟨e, he, rfl⟩ := List.mem_map.mp hf
    have f1 := fact_of c (f := .glo (l.nm e.id)) (List.mem_append_right _ (List.mem_append_right _ (List.mem_append_left _ (List.mem_map.mpr ⟨e, he, rfl⟩))))
    obtain ⟨d, hd, ok⟩ := okEns_get (a1 (a1 (a1 chk))) e he
    obtain ⟨i, hi⟩ := List.getElem?_of_mem hd
    obtain ⟨fd, F⟩ := c.def_ i hi
    have ea : d.at_ = (l.nm e.id, none) := of_decide_eq_true (a1 (a1 (a1 (a1 (a1 (a1 (a1 (a1 (a1 (a1 (a1 ok)))))))))))
    have : He.fAd K d.at_ = He.ga K (l.nm e.id) := by rw [ea]; rfl
    exact ⟨_, He.glo_ok X G f1, by show PySem.W.keepIn K (.ref (He.ga K (l.nm e.id))) = true; rw [← this]; exact F.kp⟩
/-- one def's facts -/
theorem def_of (X : K.In h) (G : h.Ns mainGlobals mg) (c : He.SaysD l.fa fn K) (chk0 : l.chk fn = true) (cb : l.clB K = true) {e : En} (he : e ∈ l.fs) {fA : Addr} (hm : mg (l.nm e.id) = some (.ref fA)) :
    ∃ fd ps, ps = (e.fn.norm ++ e.fn.kwo).map l.nm ∧ BndOk (gdOf l K) fd ps (l.pg.bind e.id) ∧ (∀ {P : Program} {w : World} {base : Heap} {hot : Bool} {k : Nat}, FnsOk (gdOf l K) l.tb l.pg P w mg base hot k → FnsOk (gdOf l K) l.tb l.pg P w mg base true k → FnG (gdOf l K) P w mg base hot (k + 1) fA fd ps (call l.pg hot (k + 1) e.id)) ∧
      ∀ x, e.fn.norm = [x] → e.fn.kwo = [] → ∀ (s : Shared) (u : Value), BindsTo s fd ⟨[u], []⟩ [(l.nm x, u)] := by
  have chk := (chk_of chk0).old
  obtain ⟨d, hd, ok⟩ := okEns_get (a1 (a1 (a1 chk))) e he
  obtain ⟨i, hi⟩ := List.getElem?_of_mem hd
  obtain ⟨fd, F⟩ := c.def_ i hi
  have o1 := a1 ok
  have o2 := a1 o1
  have o3 := a1 o2
  have o4 := a1 o3
  have o5 := a1 o4
  have o6 := a1 o5
  have o7 := a1 o6
  have o8 := a1 o7
  have o9 := a1 o8
  have o10 := a1 o9
  have o11 := a1 o10
  have ea : d.at_ = (l.nm e.id, none) := of_decide_eq_true o11
  have b1 : d.params.posonlyargs = [] := List.isEmpty_iff.mp (a2 o10)
  have b2 : d.params.args.map (·.arg) = e.fn.norm.map l.nm := of_decide_eq_true (a2 o9)
  have b3 : d.params.kwonlyargs.map (·.arg) = e.fn.kwo.map l.nm := of_decide_eq_true (a2 o8)
  have b4 : d.params.vararg = none := Option.isNone_iff_eq_none.mp (a2 o7)
  have b5 : d.params.kwarg = none := Option.isNone_iff_eq_none.mp (a2 o6)
  have b6 : e.fn.dfl = [] := List.isEmpty_iff.mp (a2 o5)
  have b7 : ∀ p ∈ e.fn.kwd, p.1 ∈ e.fn.kwo := fun p hp => by simpa using List.all_eq_true.mp (a2 o4) p hp
  have b8 : d.dfl = [] := List.isEmpty_iff.mp (a2 o3)
  have S : FnScope e.N ((e.fn.norm ++ e.fn.kwo).map l.nm) d.scope := scB_ok (a2 o2)
  have b9 : e.N.length = e.fn.slots := of_decide_eq_true (a2 o1)
  have b10 : okB l.tb e.fn.body d.scope e.N d.body = true := a2 ok
  have hfn : l.pg.fn e.id = some e.fn := by
    show (l.fs.find? fun x => x.id == e.id).map (·.fn) = some e.fn
    rw [find_of (of_decide_eq_true (a2 chk)) e he]
    rfl
  have hA : He.fAd K d.at_ = fA := by
    have f1 := fact_of c (f := .glo (l.nm e.id)) (List.mem_append_right _ (List.mem_append_right _ (List.mem_append_left _ (List.mem_map.mpr ⟨e, he, rfl⟩))))
    have g := He.glo_ok X G f1
    rw [hm] at g
    have q : He.fAd K d.at_ = He.ga K (l.nm e.id) := by rw [ea]; rfl
    rw [q]
    have z := Option.some.inj g
    cases z
    rfl
  obtain ⟨oc, od, dV, kV, doc, pm, an, cdv, ct, osl, rfl, lk, hcd, hD, hK⟩ := F.ex
  rw [hA] at lk
  have hdv : dV = .none := by
    rcases hD with ⟨_, e⟩ | ⟨e, _⟩
    · exact e
    · exact absurd (show d.dfl.map _ = [] by rw [b8]; rfl) e
  subst hdv
  have nd : ((e.fn.norm ++ e.fn.kwo).map l.nm).Nodup := by
    rw [← S.pre]
    exact S.nd.sublist (List.take_sublist _ _)
  refine ⟨PySem.W.fnOf d.name d.qual d.params d.body d.scope .none kV doc pm an cdv ct, (e.fn.norm ++ e.fn.kwo).map l.nm, rfl, ?_, fun {P w base hot k} fns fnsH => ?_, fun x hx hy s u => ?_⟩
  · have ga_eq : He.ga K (l.nm e.id) = fA := by
      rw [← hA, ea]
      rfl
    have hkw : kwFB K l.nm fA e.fn.kwd = true := by
      rw [← ga_eq]
      exact List.all_eq_true.mp (a1 cb) e he
    by_cases hemp : e.fn.kwd = []
    · have := bnd_plain (G := gdOf l K) (fd := PySem.W.fnOf d.name d.qual d.params d.body d.scope .none kV doc pm an cdv ct) (norm := e.fn.norm) (kwo := e.fn.kwo) b1 b2 b3 b4 b5 rfl nd
      have eb : l.pg.bind e.id = fun pos kw => bindP e.fn.norm e.fn.kwo [] [] pos kw := by
        funext pos kw
        unfold Prog.bind
        rw [hfn]
        simp only [b6, hemp, List.map_nil]
      rw [eb]
      exact this
    · have hkw2 : ∃ Dd, kV = .ref Dd ∧ kwLB K l.nm Dd e.fn.kwd = true := by
        unfold kwFB at hkw
        rw [lk] at hkw
        rcases Bool.or_eq_true_iff.mp hkw with z | z
        · exact absurd (List.isEmpty_iff.mp z) hemp
        · have z : kwKB K l.nm e.fn.kwd kV = true := z
          cases kV with
          | ref Dd => exact ⟨Dd, rfl, z⟩
          | _ => exact ff z
      obtain ⟨Dd, rfl, hkw3⟩ := hkw2
      obtain ⟨kl, ek, hkl⟩ := kwLB_ok hkw3
      have := bnd_kwd (G := gdOf l K) (fd := PySem.W.fnOf d.name d.qual d.params d.body d.scope .none (.ref Dd) doc pm an cdv ct) (norm := e.fn.norm) (kwo := e.fn.kwo) (D := Dd) (kwd := kl) b1 b2 b3 b4 b5 rfl rfl (fun q hq => (hkl q hq).1) (fun q hq => (hkl q hq).2.1) (fun q hq B O H => (hkl q hq).2.2 _ rfl O H) (fun q hq => b7 (q.1, q.2.1) (by rw [← ek]; exact List.mem_map.mpr ⟨q, hq, rfl⟩)) nd
      have eb : l.pg.bind e.id = fun pos kw => bindP e.fn.norm e.fn.kwo [] (kl.map fun q => (q.1, V2.val q.2.1)) pos kw := by
        funext pos kw
        unfold Prog.bind
        rw [hfn]
        simp only [b6, List.map_nil, ← ek, List.map_map]
        rfl
      rw [eb]
      exact this
  · exact fnG_of lk hcd S hfn (by rw [List.length_map, List.length_append]) b9 b10 (ft_of X G c chk0 cb) fns fnsH
  · rw [hx] at b2
    rw [hy] at b3
    have := bind_plain (fd := PySem.W.fnOf d.name d.qual d.params d.body d.scope .none kV doc pm an cdv ct) (pos := [u]) (kw := []) (norm := [l.nm x]) (kwo := []) b1 b2 b3 b4 b5 rfl (by simp) (fun y hy => by cases hy) (by simp) (fun y hy => by
      simp at hy
      subst hy
      exact ⟨u, by simp [List.lookup_cons]⟩)
    exact BindsTo.of_eq (this.trans (by simp [List.lookup_cons]))
theorem fns_of {P : Program} {w : World} {base : Heap} {hot : Bool} (X : K.In h) (G : h.Ns mainGlobals mg) (c : He.SaysD l.fa fn K) (chk0 : l.chk fn = true) (cb : l.clB K = true) : ∀ k, FnsOk (gdOf l K) l.tb l.pg P w mg base hot k := by
  have both : ∀ k, ∀ hot, FnsOk (gdOf l K) l.tb l.pg P w mg base hot k := by
    intro k
    induction k with
    | zero =>
      intro hot f hf fA hm
      obtain ⟨e, he, rfl⟩ := List.mem_map.mp hf
      obtain ⟨fd, ps, _, hb, _, _⟩ := def_of X G c chk0 cb he hm
      exact ⟨fd, ps, hb, ⟨fun _ _ _ _ _ _ _ _ _ _ _ _ _ _ _ _ _ _ _ _ _ _ _ _ hF => False.elim hF⟩⟩
    | succ k ih =>
      intro hot f hf fA hm
      obtain ⟨e, he, rfl⟩ := List.mem_map.mp hf
      obtain ⟨fd, ps, _, hb, hF, _⟩ := def_of X G c chk0 cb he hm
      exact ⟨fd, ps, hb, hF (ih hot) (ih true)⟩
  exact fun k => both k hot

def noList (K : PySem.W.Frag) : Bool := K.all fun p => decide (p.2.cls ≠ .type "list")
theorem noList_ok (hk : noList K = true) {a : Addr} {o : Obj} (e : K.lookup a = some o) : o.cls ≠ .type "list" := by
  have go : ∀ {l : List (Addr × Obj)}, l.lookup a = some o → (a, o) ∈ l := fun {l} => by
    induction l with
    | nil => intro e; cases e
    | cons p r ih =>
      intro e
      obtain ⟨b, q⟩ := p
      rw [List.lookup_cons] at e
      by_cases z : a = b
      · subst z
        rw [show (a == a) = true from beq_iff_eq.mpr rfl] at e
        cases e
        exact List.mem_cons_self ..
      · rw [show (a == b) = false from beq_eq_false_iff_ne.mpr z] at e
        exact List.mem_cons_of_mem _ (ih e)
  exact of_decide_eq_true (List.all_eq_true.mp hk _ (go e))
/-- the law's promise, the script in hand -/
def spLaw (K : PySem.W.Frag) : Sp := fun vs H Q _ => ∃ (a : Addr) (ns : List Int), vs = [.ref a] ∧ Rd H a (.lst (ns.map V.int)) ∧ ns.length ≤ 63 ∧ ∀ H', Q (.bl true) H'
theorem rds_ints {G : Gd} {O : Addr → Prop} {H : Hp} : ∀ ns : List Int, RDs G O H (ns.map D.int) (ns.map V.int)
  | [] => rfl
  | n :: ns => ⟨_, _, rfl, rfl, rds_ints ns⟩
theorem law_fn {P : Program} {w : World} {fA : Addr} (X : K.In h) (G : h.Ns mainGlobals mg) (c : He.SaysD l.fa fn K) (chk0 : l.chk fn = true) (cb : l.clB K = true) {k : Nat} {e : En} (he : e ∈ l.fs) (hm : mg (l.nm e.id) = some (.ref fA)) {x : Nat} (hx : e.fn.norm = [x]) (hy : e.fn.kwo = [])
    (truth : ∀ ns : List Int, ns.length ≤ 63 → call l.pg false (k + 1) e.id [.val (.lst (ns.map D.int))] [] = .ok (.val (.bl true)) []) :
    ∃ fd : FuncData, (∀ (s : Shared) (u : Value), BindsTo s fd ⟨[u], []⟩ [(l.nm x, u)]) ∧ ∀ base : Heap, FnOk P w K mg base CX0 (k + 3) fA fd [l.nm x] (spLaw K) := by
  obtain ⟨fd, ps, rfl, hb, hF, hB⟩ := def_of X G c chk0 cb he hm
  have hps : (e.fn.norm ++ e.fn.kwo).map l.nm = [l.nm x] := by rw [hx, hy]; rfl
  rw [hps] at hb
  rw [hps] at hF
  refine ⟨fd, hB x hx hy, fun base => ⟨fun vs H Q E q => ?_, fun A outer s H args us vs Q E hr e0 hbind r q => ?_⟩⟩
  · obtain ⟨a, ns, rfl, _⟩ := q
    rfl
  · have F := hF (P := P) (w := w) (base := base) (hot := false) (fns_of X G c chk0 cb k) (fns_of X G c chk0 cb k)
    obtain ⟨a, ns, rfl, hS, hn, hQ⟩ := q
    refine codeAny_mono (F.run (fun _ => False) [] A outer s H args us [.ref a] [.val (.lst (ns.map D.int))] [] [] Q (fun _ _ _ => False) ⟨hr.dp, hr.un⟩ (fun _ => ⟨hr.hd, rfl⟩) (fun z => by cases z) (fun p hp => by cases hp) e0 hbind r rfl ?_ ?_ ?_) fun r s' hq => ?_
    · exact ⟨rfl, (fun i o a e => by cases e), (fun i j o p a e => by cases e), fun a z => False.elim z⟩
    · refine ⟨_, [], rfl, ⟨a, _, rfl, ⟨hS, fun z => ?_⟩, rds_ints ns⟩, rfl⟩
      rcases z with ⟨i, o, z, _⟩ | z
      · cases z
      · exact z
    · rw [truth ns hn]
      intro φ' v H' h1 e1 r1
      cases (show v = V.bl true from r1)
      exact hQ H'
    · cases r with
      | error e =>
        obtain ⟨_, _, _, _, _, _, _, _, _, _, _, _, z⟩ := (show L2N.CX P w outer H s (fun _ _ _ => False) e s' from hq)
        exact z
      | ok fl => cases fl <;> exact hq
end
/-- the part of the heap is reckoned once -/
def frcK {α : Type} : List (Addr × Obj) → (List (Addr × Obj) → α) → α
  | [], k => k []
  | (a, o) :: r, k => frcK r fun t => k ((a, o) :: t)
theorem frcK_eq {α : Type} : ∀ (l : List (Addr × Obj)) (k : List (Addr × Obj) → α), frcK l k = k l
  | [], k => rfl
  | (a, o) :: r, k => frcK_eq r _
def obsL (as : List Addr) (cb : PySem.W.Frag → Bool) (fa : List He.Fa) (fn : List He.DefD) (g : Addr → Option Obj) : He.AlD × Bool × Bool := frcK (He.frG g as) fun K => (He.obsD fa fn K, noList K, cb K)
theorem obsL_is (as : List Addr) (cb : PySem.W.Frag → Bool) (fa : List He.Fa) (fn : List He.DefD) (g : Addr → Option Obj) : obsL as cb fa fn g = (He.obsD fa fn (He.frG g as), noList (He.frG g as), cb (He.frG g as)) := frcK_eq _ _
/-- what the module has laid: behind the machine's own objects -/
def laidA (n : Nat) : List Addr := mainGlobals :: List.range' 11 n
def hookL (as : List Addr) (cb : PySem.W.Frag → Bool) (fa : List He.Fa) (fn : List He.DefD) : PySem.W.Hook where
  α := He.AlD × Bool × Bool
  obs := fun s => obsL as cb fa fn s.heap.get?
  val := fun _ => (He.valD fn, true, true)
  says := fun _ h => ∃ K : PySem.W.Frag, K.In h ∧ He.SaysD fa fn K ∧ noList K = true ∧ cb K = true
  of := fun _ s e => by
    have e := (obsL_is as cb fa fn _).symm.trans e
    exact ⟨_, He.frG_in, congrArg (fun z : He.AlD × Bool × Bool => z.1) e, congrArg (fun z : He.AlD × Bool × Bool => z.2.1) e, congrArg (fun z : He.AlD × Bool × Bool => z.2.2) e⟩
  keeps := fun _ _ _ ⟨K, hK, c⟩ k => ⟨K, PySem.W.Frag.In.keeps hK k, c⟩
theorem obsL_eq {as : List Addr} {cb : PySem.W.Frag → Bool} {fa : List He.Fa} {fn : List He.DefD} {g : Addr → Option Obj} {s : Shared} (h : ∀ a, g a = s.heap.get? a) : obsL as cb fa fn g = (hookL as cb fa fn).obs s := by
  have e : g = s.heap.get? := funext h
  rw [e] <;> rfl
/-- the head in parts: each look by itself -/
theorem parts3 {α β γ δ : Type} {E : Option α} {a : α → β} {b : α → γ} {c : α → δ} {x : β} {y : γ} {z : δ} (h1 : E.map a = some x) (h2 : E.map b = some y) (h3 : E.map c = some z) : E.map (fun s => (a s, b s, c s)) = some (x, y, z) := by
  cases E with
  | none => cases h1
  | some s =>
    cases h1
    cases h2
    cases h3
    rfl
end PI

set_option maxRecDepth 100000
set_option maxHeartbeats 0
namespace Lw
open PI PySem PySem.W PySem.Calls PyProof.Rows
def p_is_place_1 : IE := .cmp .in_ (.v 1) (.g 16)
def b_is_place : List IS := [.ife (.or (.cmp .lt (.bi false .len [.v 0]) (.c (.int 1))) (.cmp .gt (.bi false .len [.v 0]) (.g 15))) [.ret (some (.c (.bl false)))] [],
  .ret (some (.bi false .all [.comp false p_is_place_1 (.nm 1) .over [.v 0] []]))]
def N_is_place : List Str := ["text", "letter"]
def f_is_place : Fn := { norm := [17], kwo := [], kwd := [], slots := 2, body := b_is_place }
def p_ascends_1 : IE := .cmp .lt (.sub (.v 0) (.bin .sub false (.v 1) (.c (.int 1)))) (.sub (.v 0) (.v 1))
def b_ascends : List IS := [.ret (some (.bi false .all [.comp false p_ascends_1 (.nm 1) .range [.c (.int 1), .bi false .len [.v 0]] []]))]
def N_ascends : List Str := ["names", "at"]
def f_ascends : Fn := { norm := [47], kwo := [], kwd := [], slots := 2, body := b_ascends }
def p_check_names_1 : List IS := [.ife (.not (.call false 0 [.v 1] [])) [.raise 46 [.v 1]] []]
def b_check_names : List IS := [.for_ (.nm 1) .over [.v 0] p_check_names_1]
def N_check_names : List Str := ["names", "name"]
def f_check_names : Fn := { norm := [47], kwo := [], kwd := [], slots := 2, body := b_check_names }
def p_check_known_1 : List IS := [.ife (.cmp .notIn (.v 2) (.v 1)) [.raise 66 [.v 2]] []]
def b_check_known : List IS := [.for_ (.nm 2) .over [.v 0] p_check_known_1]
def N_check_known : List Str := ["names", "places", "name"]
def f_check_known : Fn := { norm := [47, 67], kwo := [], kwd := [], slots := 3, body := b_check_known }
def p_make_lot_1 : List IS := [.ife (.cmp .in_ (.v 2) (.v 1)) [.raise 164 [.v 2]] [], .put (.v 1) (.v 2) (.c (.bl true))]
def b_make_lot : List IS := [.ex (.call false 29 [.v 0] []),
  .set 1 (.dnew true),
  .for_ (.nm 2) .over [.v 0] p_make_lot_1,
  .ret (some (.bi false .tuple [.bi false .sorted [.bi false .list [.v 0]]]))]
def N_make_lot : List Str := ["names", "seen", "name"]
def f_make_lot : Fn := { norm := [47], kwo := [], kwd := [], slots := 3, body := b_make_lot }
def p_is_lot_1 : IE := .call false 0 [.v 1] []
def b_is_lot : List IS := [.ife (.not (.call false 48 [.v 0] [])) [.ret (some (.c (.bl false)))] [],
  .ret (some (.bi false .all [.comp false p_is_lot_1 (.nm 1) .over [.v 0] []]))]
def N_is_lot : List Str := ["names", "name"]
def f_is_lot : Fn := { norm := [47], kwo := [], kwd := [], slots := 2, body := b_is_lot }
def b_check_place : List IS := [.ife (.not (.call false 0 [.v 0] [])) [.raise 46 [.v 0]] [],
  .ife (.and (.cmp .isNot (.v 1) (.c (.non))) (.cmp .notIn (.v 0) (.v 1))) [.raise 66 [.v 0]] []]
def N_check_place : List Str := ["place", "places"]
def f_check_place : Fn := { norm := [169], kwo := [67], kwd := [(67, .non)], slots := 2, body := b_check_place }
def b_check_lot : List IS := [.ex (.call false 29 [.v 0] []),
  .ife (.not (.call false 48 [.v 0] [])) [.raise 170 [.v 0]] [],
  .ife (.cmp .isNot (.v 1) (.c (.non))) [.ex (.call false 49 [.v 0, .v 1] [])] []]
def N_check_lot : List Str := ["lot", "places"]
def f_check_lot : Fn := { norm := [171], kwo := [67], kwd := [(67, .non)], slots := 2, body := b_check_lot }
def b_check_places : List IS := [.ex (.call false 52 [.v 0] []),
  .ife (.cmp .gt (.bi false .len [.v 0]) (.v 1)) [.raise 179 [.v 1, .bi false .len [.v 0]]] []]
def N_check_places : List Str := ["places", "most"]
def f_check_places : Fn := { norm := [67], kwo := [201], kwd := [(201, .int 7)], slots := 2, body := b_check_places }
def b__law_mix : List IS := [.set 2 (.bin .mod false (.bi false .int [.bin .add false (.bin .add false (.bin .mul false (.v 0) (.c (.int 48271))) (.bin .mul false (.v 1) (.c (.int 69621)))) (.c (.int 11))]) (.c (.int 2147483647))),
  .set 3 (.bin .mod false (.bi false .int [.bin .add false (.bin .add false (.bin .mul false (.v 2) (.v 2)) (.bin .mul false (.v 2) (.c (.int 40692)))) (.v 1)]) (.c (.int 2147483399))),
  .set 4 (.bin .mod false (.bi false .int [.bin .add false (.bin .add false (.bin .mul false (.v 3) (.v 3)) (.bin .mul false (.v 3) (.c (.int 16807)))) (.v 2)]) (.c (.int 2147483629))),
  .ret (some (.bin .add false (.bin .mul false (.v 4) (.c (.int 2147483399))) (.v 3)))]
def N__law_mix : List Str := ["number", "turn", "one", "two", "three"]
def f__law_mix : Fn := { norm := [18, 19], kwo := [], kwd := [], slots := 5, body := b__law_mix }
def p__law_store_1 : List IS := [.ex (.meth false .lAppend (.v 1) [.bi false .int [.v 3]]), .set 2 (.bin .mod false (.bi false .int [.bin .add false (.bin .add false (.bin .mul false (.v 2) (.c (.int 65599))) (.bin .mod false (.bi false .int [.v 3]) (.c (.int 2147483629)))) (.c (.int 1))]) (.c (.int 2147483647)))]
def b__law_store : List IS := [.set 1 (.lst true []),
  .set 2 (.c (.int 5)),
  .for_ (.nm 3) .over [.slice false (.v 0) none (some (.c (.int 63)))] p__law_store_1,
  .frz 1,
  .ret (some (.lst true [.v 1, .c (.int 0), .c (.int 0), .c (.int 0), .c (.int 0), .v 2]))]
def N__law_store : List Str := ["script", "cells", "total", "cell"]
def f__law_store : Fn := { norm := [20], kwo := [], kwd := [], slots := 4, body := b__law_store }
def b__law_take : List IS := [.ife (.cmp .le (.v 1) (.c (.int 1))) [.ret (some (.c (.int 0)))] [],
  .put (.v 0) (.c (.int 4)) (.bin .add false (.sub (.v 0) (.c (.int 4))) (.c (.int 1))),
  .set 2 (.bi false .int [.sub (.v 0) (.c (.int 2))]),
  .ife (.cmp .gt (.v 2) (.c (.int 0))) [.put (.v 0) (.c (.int 2)) (.bin .fdiv false (.v 2) (.v 1)), .ret (some (.bin .mod false (.v 2) (.v 1)))] [],
  .ife (.cmp .ge (.sub (.v 0) (.c (.int 1))) (.bi false .len [.sub (.v 0) (.c (.int 0))])) [.ret (some (.bin .mod false (.bi false .int [.call false 1 [.sub (.v 0) (.c (.int 5)), .sub (.v 0) (.c (.int 4))] []]) (.v 1)))] [],
  .set 3 (.bi false .int [.sub (.sub (.v 0) (.c (.int 0))) (.sub (.v 0) (.c (.int 1)))]),
  .ife (.cmp .ge (.v 3) (.bin .pow false (.c (.int 10)) (.c (.int 18)))) [.put (.v 0) (.c (.int 1)) (.bin .add false (.sub (.v 0) (.c (.int 1))) (.c (.int 1))), .put (.v 0) (.c (.int 2)) (.bin .fdiv false (.v 3) (.v 1)), .ret (some (.bin .mod false (.v 3) (.v 1)))] [],
  .put (.v 0) (.c (.int 3)) (.bin .add false (.sub (.v 0) (.c (.int 3))) (.c (.int 1))),
  .ife (.cmp .ge (.sub (.v 0) (.c (.int 3))) (.c (.int 4))) [.put (.v 0) (.c (.int 1)) (.bin .add false (.sub (.v 0) (.c (.int 1))) (.c (.int 1))), .put (.v 0) (.c (.int 3)) (.c (.int 0))] [],
  .ret (some (.bin .mod false (.bi false .int [.call false 1 [.v 3, .sub (.v 0) (.c (.int 4))] []]) (.v 1)))]
def N__law_take : List Str := ["store", "many", "left", "cell"]
def f__law_take : Fn := { norm := [21, 22], kwo := [], kwd := [], slots := 4, body := b__law_take }
def b__law_pick : List IS := [.ret (some (.sub (.v 1) (.call false 3 [.v 0, .bi false .len [.v 1]] [])))]
def N__law_pick : List Str := ["store", "row"]
def f__law_pick : Fn := { norm := [21, 23], kwo := [], kwd := [], slots := 2, body := b__law_pick }
def b__law_chance : List IS := [.ret (some (.cmp .eq (.call false 3 [.v 0, .v 1] []) (.c (.int 0))))]
def N__law_chance : List Str := ["store", "many"]
def f__law_chance : Fn := { norm := [21, 22], kwo := [], kwd := [], slots := 2, body := b__law_chance }
def b__law_many : List IS := [.set 3 (.call false 3 [.v 0, .c (.int 6)] []),
  .ife (.or (.cmp .eq (.v 3) (.c (.int 0))) (.cmp .le (.v 2) (.v 1))) [.ret (some (.v 1))] [],
  .ife (.cmp .eq (.v 3) (.c (.int 1))) [.ret (some (.v 2))] [],
  .ife (.cmp .eq (.v 3) (.c (.int 2))) [.ret (some (.bin .add false (.v 1) (.c (.int 1))))] [],
  .ret (some (.bin .add false (.v 1) (.call false 3 [.v 0, .bin .add false (.bin .sub false (.v 2) (.v 1)) (.c (.int 1))] [])))]
def N__law_many : List Str := ["store", "least", "bound", "kind"]
def f__law_many : Fn := { norm := [21, 24, 25], kwo := [], kwd := [], slots := 4, body := b__law_many }
def p__law_some_1 : IE := .v 4
def b__law_some : List IS := [.set 2 (.call false 3 [.v 0, .c (.int 6)] []),
  .ife (.or (.cmp .eq (.v 2) (.c (.int 0))) (.cmp .eq (.bi false .len [.v 1]) (.c (.int 0)))) [.ret (some (.lst false []))] [],
  .ife (.cmp .eq (.v 2) (.c (.int 1))) [.ret (some (.bi false .list [.v 1]))] [],
  .ife (.cmp .eq (.v 2) (.c (.int 2))) [.set 3 (.bi true .list [.v 1]), .ex (.meth false .lPopAt (.v 3) [.call false 3 [.v 0, .bi false .len [.v 1]] []]), .ret (some (.v 3))] [],
  .ife (.cmp .eq (.v 2) (.c (.int 3))) [.ret (some (.lst false [.call false 4 [.v 0, .v 1] []]))] [],
  .ret (some (.comp false p__law_some_1 (.nm 4) .over [.v 1] [.cmp .eq (.call false 3 [.v 0, .c (.int 2)] []) (.c (.int 1))]))]
def N__law_some : List Str := ["store", "row", "kind", "rest", "item"]
def f__law_some : Fn := { norm := [21, 23], kwo := [], kwd := [], slots := 5, body := b__law_some }
def p__law_same_1 : List IS := [.ife (.not (.call false 6 [.sub (.v 0) (.v 2), .sub (.v 1) (.v 2)] [])) [.ret (some (.c (.bl false)))] []]
def b__law_same : List IS := [.ife (.cmp .is (.v 1) (.c (.non))) [.ret (some (.cmp .is (.v 0) (.c (.non))))] [],
  .ife (.cmp .is (.v 1) (.c (.bl true))) [.ret (some (.cmp .is (.v 0) (.c (.bl true))))] [],
  .ife (.cmp .is (.v 1) (.c (.bl false))) [.ret (some (.cmp .is (.v 0) (.c (.bl false))))] [],
  .ife (.isi (.v 1) [.ty "int"]) [.ret (some (.and (.isi (.v 0) [.ty "int"]) (.and (.not (.isi (.v 0) [.ty "bool"])) (.cmp .eq (.v 0) (.v 1)))))] [],
  .ife (.isi (.v 1) [.ty "str"]) [.ret (some (.and (.isi (.v 0) [.ty "str"]) (.cmp .eq (.v 0) (.v 1))))] [],
  .ife (.isi (.v 1) [.ty "list"]) [.ife (.not (.isi (.v 0) [.ty "list"])) [.ret (some (.c (.bl false)))] []] [.ife (.not (.isi (.v 0) [.ty "tuple"])) [.ret (some (.c (.bl false)))] []],
  .ife (.cmp .ne (.bi false .len [.v 0]) (.bi false .len [.v 1])) [.ret (some (.c (.bl false)))] [],
  .for_ (.nm 2) .range [.bi false .len [.v 1]] p__law_same_1,
  .ret (some (.c (.bl true)))]
def N__law_same : List Str := ["actual", "due", "k"]
def f__law_same : Fn := { norm := [26, 27], kwo := [], kwd := [], slots := 3, body := b__law_same }
def p__law_ascends_1 : List IS := [.ife (.not (.cmp .lt (.sub (.v 0) (.bin .sub false (.v 1) (.c (.int 1)))) (.sub (.v 0) (.v 1)))) [.ret (some (.c (.bl false)))] []]
def b__law_ascends : List IS := [.for_ (.nm 1) .range [.c (.int 1), .bi false .len [.v 0]] p__law_ascends_1,
  .ret (some (.c (.bl true)))]
def N__law_ascends : List Str := ["row", "k"]
def f__law_ascends : Fn := { norm := [23], kwo := [], kwd := [], slots := 2, body := b__law_ascends }
def b__law_letters : List IS := [.ret (some (.c (.str [97, 98, 99, 100, 101, 102, 103, 104, 105, 106, 107, 108, 109, 110, 111, 112, 113, 114, 115, 116, 117, 118, 119, 120, 121, 122])))]
def N__law_letters : List Str := []
def f__law_letters : Fn := { norm := [], kwo := [], kwd := [], slots := 0, body := b__law_letters }
def b__law_signs : List IS := [.set 0 (.c (.str [32, 33, 34, 35, 36, 38, 39, 40, 41, 42, 43, 44, 45, 46, 47, 48, 49, 50, 51, 52, 53, 54, 55, 56, 57, 58, 59, 60, 61, 62, 63, 64, 65, 66, 67, 68, 69, 70, 71, 72, 73, 74, 75, 76, 77, 78, 79, 80, 81, 82, 83, 84, 85, 86, 87, 88, 89, 90, 91, 92, 93, 94, 95, 96])),
  .ret (some (.bin .add false (.v 0) (.c (.str [123, 124, 125, 126]))))]
def N__law_signs : List Str := ["signs"]
def f__law_signs : Fn := { norm := [], kwo := [], kwd := [], slots := 1, body := b__law_signs }
def p__law_is_place_1 : List IS := [.ife (.cmp .notIn (.v 1) (.call false 7 [] [])) [.ret (some (.c (.bl false)))] []]
def b__law_is_place : List IS := [.ife (.or (.not (.isi (.v 0) [.ty "str"])) (.not (.chain .le .le (.c (.int 1)) (.bi false .len [.v 0]) (.c (.int 6))))) [.ret (some (.c (.bl false)))] [],
  .for_ (.nm 1) .over [.v 0] p__law_is_place_1,
  .ret (some (.c (.bl true)))]
def N__law_is_place : List Str := ["text", "sign"]
def f__law_is_place : Fn := { norm := [17], kwo := [], kwd := [], slots := 2, body := b__law_is_place }
def p__law_name_1 : List IS := [.set 1 (.bin .add false (.v 1) (.call false 4 [.v 0, .call false 7 [] []] []))]
def b__law_name : List IS := [.set 1 (.c (.str [])),
  .for_ (.nm 2) .range [.call false 5 [.v 0, .c (.int 1), .c (.int 6)] []] p__law_name_1,
  .ret (some (.v 1))]
def N__law_name : List Str := ["store", "name", "k"]
def f__law_name : Fn := { norm := [21], kwo := [], kwd := [], slots := 3, body := b__law_name }
def p__law_unlike_1 : List IS := [.ife (.cmp .notIn (.v 0) (.v 1)) [.brk] [], .set 0 (.bin .add false (.slice false (.v 0) none (some (.neg (.c (.int 1))))) (.sub (.v 2) (.bin .mod false (.bi false .int [.bin .add false (.meth false .sFind (.v 2) [.sub (.v 0) (.neg (.c (.int 1)))]) (.c (.int 1))]) (.c (.int 26)))))]
def b__law_unlike : List IS := [.set 2 (.call false 7 [] []),
  .for_ (.nm 3) .range [.c (.int 26)] p__law_unlike_1,
  .ret (some (.v 0))]
def N__law_unlike : List Str := ["name", "taken", "letters", "k"]
def f__law_unlike : Fn := { norm := [165, 166], kwo := [], kwd := [], slots := 4, body := b__law_unlike }
def p__law_world_1 : List IS := [.set 9 (.call false 9 [.v 0] []), .ife (.cmp .eq (.v 4) (.c (.int 0))) [.set 9 (.slice false (.v 9) none (some (.c (.int 1))))] [], .ife (.cmp .eq (.v 4) (.c (.int 1))) [.set 9 (.bin .add false (.bin .add false (.slice false (.v 5) none (some (.v 6))) (.slice false (.v 9) none (some (.c (.int 1))))) (.slice false (.v 5) (some (.bin .add false (.v 6) (.c (.int 1)))) none))] [], .ife (.cmp .eq (.v 4) (.c (.int 2))) [.set 9 (.slice false (.bin .add false (.v 5) (.v 9)) none (some (.bin .add false (.c (.int 1)) (.bin .mod false (.bi false .int [.v 8]) (.c (.int 6))))))] [], .ex (.meth false .lAppend (.v 7) [.call false 36 [.v 9, .v 7] []])]
def b__law_world : List IS := [.set 3 (.call false 5 [.v 0, .v 1, .v 2] []),
  .set 4 (.call false 3 [.v 0, .c (.int 4)] []),
  .set 5 (.call false 9 [.v 0] []),
  .set 6 (.call false 3 [.v 0, .bi false .len [.v 5]] []),
  .set 7 (.lst true []),
  .for_ (.nm 8) .range [.v 3] p__law_world_1,
  .ret (some (.bi false .tuple [.bi false .sorted [.v 7]]))]
def N__law_world : List Str := ["store", "least", "bound", "size", "kind", "stem", "at", "world", "k", "name"]
def f__law_world : Fn := { norm := [21, 24, 25], kwo := [], kwd := [], slots := 10, body := b__law_world }
def b__law_fresh : List IS := [.set 2 (.call false 9 [.v 0] []),
  .set 3 (.call false 3 [.v 0, .c (.int 3)] []),
  .ife (.and (.cmp .eq (.v 3) (.c (.int 0))) (.cmp .gt (.bi false .len [.v 1]) (.c (.int 0)))) [.set 2 (.call false 4 [.v 0, .v 1] [])] [],
  .ife (.cmp .eq (.v 3) (.c (.int 1))) [.set 2 (.slice false (.v 2) none (some (.c (.int 1))))] [],
  .ret (some (.call false 36 [.v 2, .v 1] []))]
def N__law_fresh : List Str := ["store", "world", "name", "kind"]
def f__law_fresh : Fn := { norm := [21, 200], kwo := [], kwd := [], slots := 4, body := b__law_fresh }
def b__law_bad_place : List IS := [.set 1 (.call false 9 [.v 0] []),
  .set 2 (.call false 3 [.v 0, .c (.int 6)] []),
  .set 3 (.call false 3 [.v 0, .bi false .len [.v 1]] []),
  .set 4 (.call false 4 [.v 0, .call false 8 [] []] []),
  .ife (.cmp .eq (.v 2) (.c (.int 0))) [.ret (some (.c (.str [])))] [],
  .ife (.cmp .eq (.v 2) (.c (.int 1))) [.ret (some (.slice false (.bin .mul false (.v 1) (.c (.int 12))) none (some (.bin .add false (.c (.int 7)) (.call false 3 [.v 0, .c (.int 6)] [])))))] [],
  .ife (.cmp .eq (.v 2) (.c (.int 2))) [.ret (some (.bin .add false (.bin .add false (.slice false (.v 1) none (some (.v 3))) (.meth false .sUpper (.sub (.v 1) (.v 3)) [])) (.slice false (.v 1) (some (.bin .add false (.v 3) (.c (.int 1)))) none)))] [],
  .ife (.cmp .eq (.v 2) (.c (.int 3))) [.ret (some (.sub (.lst false [.bin .add false (.c (.str [32])) (.v 1), .bin .add false (.v 1) (.c (.str [32]))]) (.call false 3 [.v 0, .c (.int 2)] [])))] [],
  .ife (.cmp .eq (.v 2) (.c (.int 4))) [.ret (some (.bin .add false (.bin .add false (.slice false (.v 1) none (some (.v 3))) (.v 4)) (.slice false (.v 1) (some (.bin .add false (.v 3) (.c (.int 1)))) none)))] [],
  .ret (some (.bin .add false (.bin .add false (.slice false (.v 1) none (some (.v 3))) (.v 4)) (.slice false (.v 1) (some (.v 3)) none)))]
def N__law_bad_place : List Str := ["store", "name", "kind", "at", "sign"]
def f__law_bad_place : Fn := { norm := [21], kwo := [], kwd := [], slots := 5, body := b__law_bad_place }
def p__law_raw_place_1 : List IS := [.set 3 (.bin .add false (.v 3) (.call false 4 [.v 0, .v 2] []))]
def b__law_raw_place : List IS := [.set 1 (.call false 3 [.v 0, .c (.int 4)] []),
  .ife (.cmp .lt (.v 1) (.c (.int 2))) [.ret (some (.call false 9 [.v 0] []))] [],
  .ife (.cmp .eq (.v 1) (.c (.int 2))) [.ret (some (.call false 10 [.v 0] []))] [],
  .set 2 (.bin .add false (.call false 7 [] []) (.call false 8 [] [])),
  .set 3 (.c (.str [])),
  .for_ (.nm 4) .range [.call false 5 [.v 0, .c (.int 0), .c (.int 12)] []] p__law_raw_place_1,
  .ret (some (.v 3))]
def N__law_raw_place : List Str := ["store", "kind", "signs", "text", "k"]
def f__law_raw_place : Fn := { norm := [21], kwo := [], kwd := [], slots := 5, body := b__law_raw_place }
def b__law_bent_lot : List IS := [.set 2 (.slice true (.call false 54 [.v 0, .v 1] []) none (some (.c (.int 10)))),
  .set 3 (.call false 3 [.v 0, .c (.int 6)] []),
  .set 4 (.call false 3 [.v 0, .bin .add false (.bi false .len [.v 2]) (.c (.int 1))] []),
  .ife (.or (.cmp .eq (.v 3) (.c (.int 0))) (.cmp .eq (.v 3) (.c (.int 5)))) [.ex (.meth false .lInsert (.v 2) [.v 4, .call false 10 [.v 0] []])] [],
  .ife (.or (.cmp .eq (.v 3) (.c (.int 1))) (.cmp .eq (.v 3) (.c (.int 5)))) [.ex (.meth false .lInsert (.v 2) [.call false 3 [.v 0, .bin .add false (.bi false .len [.v 2]) (.c (.int 1))] [], .call false 55 [.v 0, .v 1] []])] [],
  .ife (.cmp .eq (.v 3) (.c (.int 2))) [.set 2 (.bi true .sorted [.bin .add false (.v 2) (.lst false [.call false 55 [.v 0, .v 1] []])])] [],
  .ife (.and (.cmp .eq (.v 3) (.c (.int 3))) (.cmp .gt (.bi false .len [.v 2]) (.c (.int 0)))) [.ex (.meth false .lInsert (.v 2) [.v 4, .call false 4 [.v 0, .v 2] []])] [],
  .ife (.cmp .eq (.v 3) (.c (.int 4))) [.set 2 (.rev true (.v 2))] [],
  .ret (some (.bi false .tuple [.v 2]))]
def N__law_bent_lot : List Str := ["store", "world", "row", "kind", "at"]
def f__law_bent_lot : Fn := { norm := [21, 200], kwo := [], kwd := [], slots := 5, body := b__law_bent_lot }
def b__law_place_due : List IS := [.ife (.not (.call false 35 [.v 0] [])) [.ret (some (.tup [.c (.str [66, 97, 100, 80, 108, 97, 99, 101]), .v 0]))] [],
  .ife (.and (.cmp .isNot (.v 1) (.c (.non))) (.cmp .notIn (.v 0) (.v 1))) [.ret (some (.tup [.c (.str [85, 110, 107, 110, 111, 119, 110]), .v 0]))] [],
  .ret (some (.c (.non)))]
def N__law_place_due : List Str := ["name", "world"]
def f__law_place_due : Fn := { norm := [165, 200], kwo := [], kwd := [], slots := 2, body := b__law_place_due }
def p__law_lot_due_1 : List IS := [.ife (.not (.call false 35 [.v 2] [])) [.ret (some (.tup [.c (.str [66, 97, 100, 80, 108, 97, 99, 101]), .v 2]))] []]
def p__law_lot_due_2 : List IS := [.ife (.cmp .notIn (.v 2) (.v 1)) [.ret (some (.tup [.c (.str [85, 110, 107, 110, 111, 119, 110]), .v 2]))] []]
def b__law_lot_due : List IS := [.for_ (.nm 2) .over [.v 0] p__law_lot_due_1,
  .ife (.not (.call false 34 [.v 0] [])) [.ret (some (.tup [.c (.str [66, 97, 100, 76, 111, 116]), .v 0]))] [],
  .ife (.cmp .isNot (.v 1) (.c (.non))) [.for_ (.nm 2) .over [.v 0] p__law_lot_due_2] [],
  .ret (some (.c (.non)))]
def N__law_lot_due : List Str := ["lot", "world", "name"]
def f__law_lot_due : Fn := { norm := [171, 200], kwo := [], kwd := [], slots := 3, body := b__law_lot_due }
def b__law_world_due : List IS := [.set 2 (.call false 58 [.v 0, .c (.non)] []),
  .ife (.and (.cmp .is (.v 2) (.c (.non))) (.cmp .gt (.bi false .len [.v 0]) (.v 1))) [.ret (some (.tup [.c (.str [84, 111, 111, 77, 97, 110, 121]), .v 1, .bi false .len [.v 0]]))] [],
  .ret (some (.v 2))]
def N__law_world_due : List Str := ["lot", "bound", "due"]
def f__law_world_due : Fn := { norm := [171, 25], kwo := [], kwd := [], slots := 3, body := b__law_world_due }
def p__law_crowd_1 : List IS := [.ex (.meth false .lAppend (.v 6) [.bin .add false (.bin .add false (.v 3) (.sub (.v 2) (.bin .mod false (.bi false .int [.bin .add false (.v 4) (.bin .fdiv false (.v 7) (.c (.int 26)))]) (.c (.int 26))))) (.sub (.v 2) (.bin .mod false (.bi false .int [.bin .add false (.v 5) (.v 7)]) (.c (.int 26))))])]
def b__law_crowd : List IS := [.set 2 (.call false 7 [] []),
  .set 3 (.slice false (.call false 9 [.v 0] []) none (some (.c (.int 4)))),
  .set 4 (.call false 3 [.v 0, .c (.int 26)] []),
  .set 5 (.call false 3 [.v 0, .c (.int 26)] []),
  .set 6 (.lst true []),
  .for_ (.nm 7) .range [.v 1] p__law_crowd_1,
  .ret (some (.v 6))]
def N__law_crowd : List Str := ["store", "many", "letters", "stem", "one", "two", "names", "k"]
def f__law_crowd : Fn := { norm := [21, 22], kwo := [], kwd := [], slots := 8, body := b__law_crowd }
def b__law_clear : List IS := [.set 1 (.lst true []),
  .ife (.isi (.v 0) [.own 46]) [.ex (.meth false .lAppend (.v 1) [.tup [.c (.str [66, 97, 100, 80, 108, 97, 99, 101]), .fld (.v 0) 169]])] [],
  .ife (.isi (.v 0) [.own 170]) [.ex (.meth false .lAppend (.v 1) [.tup [.c (.str [66, 97, 100, 76, 111, 116]), .fld (.v 0) 171]])] [],
  .ife (.isi (.v 0) [.own 66]) [.ex (.meth false .lAppend (.v 1) [.tup [.c (.str [85, 110, 107, 110, 111, 119, 110]), .fld (.v 0) 169]])] [],
  .ife (.isi (.v 0) [.own 179]) [.ex (.meth false .lAppend (.v 1) [.tup [.c (.str [84, 111, 111, 77, 97, 110, 121]), .fld (.v 0) 25, .fld (.v 0) 180]])] [],
  .set 2 (.lst false [.isi (.v 0) [.own 164], .isi (.v 0) [.own 173], .isi (.v 0) [.own 175], .isi (.v 0) [.own 176], .isi (.v 0) [.own 181], .isi (.v 0) [.own 182], .isi (.v 0) [.own 184], .isi (.v 0) [.own 186], .isi (.v 0) [.own 187], .isi (.v 0) [.own 188], .isi (.v 0) [.own 190], .isi (.v 0) [.own 191], .isi (.v 0) [.own 193], .isi (.v 0) [.own 194], .isi (.v 0) [.own 195], .isi (.v 0) [.own 196], .isi (.v 0) [.own 198]]),
  .ife (.or (.cmp .ne (.bi false .len [.v 1]) (.c (.int 1))) (.or (.cmp .in_ (.c (.bl true)) (.v 2)) (.or (.not (.isi (.v 0) [.own 167])) (.not (.isi (.v 0) [.ty "ValueError"]))))) [.ret (some (.tup [.c (.str [117, 110, 99, 108, 101, 97, 114])]))] [],
  .ret (some (.sub (.v 1) (.c (.int 0))))]
def N__law_clear : List Str := ["error", "rows", "others"]
def f__law_clear : Fn := { norm := [168], kwo := [], kwd := [], slots := 3, body := b__law_clear }
def p__law_ask_1 : List IS := [.ife (.and (.cmp .eq (.v 0) (.c (.str [108, 111, 116]))) (.cmp .is (.v 2) (.c (.non)))) [.ret (some (.lst false [.c (.bl true), .call false 52 [.v 1] []]))] [], .ife (.cmp .eq (.v 0) (.c (.str [108, 111, 116]))) [.ret (some (.lst false [.c (.bl true), .call false 52 [.v 1] [(67, .v 2)]]))] [], .ife (.and (.cmp .eq (.v 0) (.c (.str [112, 108, 97, 99, 101]))) (.cmp .is (.v 2) (.c (.non)))) [.ret (some (.lst false [.c (.bl true), .call false 51 [.v 1] []]))] [], .ife (.cmp .eq (.v 0) (.c (.str [112, 108, 97, 99, 101]))) [.ret (some (.lst false [.c (.bl true), .call false 51 [.v 1] [(67, .v 2)]]))] [], .ife (.cmp .is (.v 2) (.c (.non))) [.ret (some (.lst false [.c (.bl true), .call false 53 [.v 1] []]))] [], .ret (some (.lst false [.c (.bl true), .call false 53 [.v 1] [(201, .v 2)]]))]
def p__law_ask_2 : List IS := [.ret (some (.lst false [.c (.bl false), .call false 60 [.v 3] []]))]
def b__law_ask : List IS := [.try_ p__law_ask_1 167 3 p__law_ask_2]
def N__law_ask : List Str := ["check", "row", "limit", "error"]
def f__law_ask : Fn := { norm := [202, 23, 203], kwo := [], kwd := [], slots := 4, body := b__law_ask }
def b__law_fits : List IS := [.ife (.cmp .is (.v 1) (.c (.non))) [.ret (some (.and (.cmp .is (.sub (.v 0) (.c (.int 0))) (.c (.bl true))) (.cmp .is (.sub (.v 0) (.c (.int 1))) (.c (.non)))))] [],
  .ret (some (.and (.cmp .is (.sub (.v 0) (.c (.int 0))) (.c (.bl false))) (.call false 6 [.sub (.v 0) (.c (.int 1)), .v 1] [])))]
def N__law_fits : List Str := ["asked", "due"]
def f__law_fits : Fn := { norm := [204, 27], kwo := [], kwd := [], slots := 2, body := b__law_fits }
def p__law_tuple_right_1 : List IS := [.ife (.not (.call false 62 [.call false 61 [.c (.str [108, 111, 116]), .v 0, .v 3] [], .call false 58 [.v 0, .v 3] []] [])) [.ret (some (.c (.bl false)))] []]
def b__law_tuple_right : List IS := [.for_ (.nm 3) .over [.v 1] p__law_tuple_right_1,
  .ife (.not (.call false 62 [.call false 61 [.c (.str [119, 111, 114, 108, 100]), .v 0, .v 2] [], .call false 59 [.v 0, .v 2] []] [])) [.ret (some (.c (.bl false)))] [],
  .ife (.not (.call false 62 [.call false 61 [.c (.str [119, 111, 114, 108, 100]), .v 0, .c (.non)] [], .call false 59 [.v 0, .c (.int 7)] []] [])) [.ret (some (.c (.bl false)))] [],
  .ret (some (.call false 6 [.call false 50 [.v 0] [], .cmp .is (.call false 58 [.v 0, .c (.non)] []) (.c (.non))] []))]
def N__law_tuple_right : List Str := ["row", "worlds", "bound", "world"]
def f__law_tuple_right : Fn := { norm := [23, 205, 25], kwo := [], kwd := [], slots := 4, body := b__law_tuple_right }
def p__law_words_right_1 : List IS := [.ife (.not (.call false 62 [.call false 61 [.c (.str [112, 108, 97, 99, 101]), .v 2, .v 3] [], .call false 57 [.v 2, .v 3] []] [])) [.ret (some (.c (.bl false)))] []]
def p__law_words_right_2 : List IS := [.for_ (.nm 3) .over [.v 1] p__law_words_right_1]
def b__law_words_right : List IS := [.for_ (.nm 2) .over [.v 0] p__law_words_right_2,
  .ret (some (.c (.bl true)))]
def N__law_words_right : List Str := ["words", "worlds", "word", "world"]
def f__law_words_right : Fn := { norm := [206, 205], kwo := [], kwd := [], slots := 4, body := b__law_words_right }
def b__law_great_right : List IS := [.set 2 (.call false 41 [.v 0, .bin .add false (.c (.int 13)) (.call false 3 [.v 0, .c (.int 28)] [])] []),
  .set 3 (.call false 30 [.v 2] []),
  .ife (.or (.not (.call false 6 [.v 3, .bi false .tuple [.bi false .sorted [.v 2]]] [])) (.not (.call false 63 [.v 3, .lst false [.c (.non), .v 3], .c (.int 12)] []))) [.ret (some (.c (.bl false)))] [],
  .ret (some (.call false 64 [.v 2, .lst false [.v 3, .v 1]] []))]
def N__law_great_right : List Str := ["store", "world", "names", "great"]
def f__law_great_right : Fn := { norm := [21, 200], kwo := [], kwd := [], slots := 4, body := b__law_great_right }
def p_law_1 : IE := .call false 11 [.v 1] []
def p_law_2 : List IS := [.ex (.meth false .lAppend (.v 6) [.bi false .tuple [.comp false p_law_1 (.nm 10) .range [.call false 5 [.v 1, .c (.int 0), .c (.int 12)] []] []]]), .ex (.meth false .lAppend (.v 6) [.call false 56 [.v 1, .v 2] []]), .ex (.meth false .lAppend (.v 6) [.bi false .tuple [.call false 54 [.v 1, .v 3] []]])]
def p_law_3 : List IS := [.ife (.not (.call false 63 [.v 8, .v 4, .v 5] [])) [.ret (some (.c (.bl false)))] []]
def b_law : List IS := [.set 1 (.call true 2 [.v 0] []),
  .set 2 (.call false 37 [.v 1, .c (.int 0), .c (.int 12)] []),
  .set 3 (.call false 37 [.v 1, .c (.int 0), .c (.int 12)] []),
  .set 4 (.lst false [.c (.non), .tup [], .v 2, .v 3]),
  .set 5 (.bi false .max [.c (.int 0), .sub (.lst false [.bi false .len [.v 2], .bin .sub false (.bi false .len [.v 2]) (.c (.int 1)), .bi false .len [.v 3], .call false 3 [.v 1, .c (.int 13)] []]) (.call false 3 [.v 1, .c (.int 4)] [])]),
  .set 6 (.lst true [.tup [], .v 2, .call false 56 [.v 1, .v 2] [], .bi false .tuple [.call false 54 [.v 1, .v 2] []], .call false 56 [.v 1, .v 3] [], .v 3]),
  .for_ (.nm 7) .range [.call false 5 [.v 1, .c (.int 0), .c (.int 3)] []] p_law_2,
  .for_ (.nm 8) .over [.bin .add false (.v 6) (.rev false (.v 6))] p_law_3,
  .set 9 (.bin .add false (.bin .add false (.bin .add false (.bi false .list [.v 2]) (.lst false [.call false 55 [.v 1, .v 2] [], .call false 10 [.v 1] []])) (.bi false .list [.v 3])) (.lst false [.call false 11 [.v 1] []])),
  .ife (.not (.call false 64 [.bin .add false (.v 9) (.rev false (.v 9)), .v 4] [])) [.ret (some (.c (.bl false)))] [],
  .ife (.and (.call false 31 [.v 1, .c (.int 8)] []) (.not (.call false 65 [.v 1, .v 2] []))) [.ret (some (.c (.bl false)))] [],
  .ret (some (.and (.cmp .is (.call false 51 [] [(169, .c (.str [97])), (67, .c (.non))]) (.c (.non))) (.cmp .is (.call false 52 [.tup [.c (.str [97])]] [(67, .c (.non))]) (.c (.non)))))]
def N_law : List Str := ["script", "store", "world", "other", "worlds", "bound", "rows", "k", "row", "words", "at"]
def f_law : Fn := { norm := [20], kwo := [], kwd := [], slots := 11, body := b_law }
def exL : List (Nat × Nat × List (Nat × Nat)) := [(170, 1, [(171, 1)]), (46, 1, [(169, 1)]), (164, 1, [(172, 1)]), (179, 2, [(25, 1), (180, 2)]), (66, 1, [(169, 1)])]
def csL : List (Nat × List Nat) := [(191, [191, 167]), (195, [195, 167]), (170, [170, 167]), (186, [186, 167]), (46, [46, 167]), (182, [182, 167]), (173, [173, 167]), (190, [190, 167]), (196, [196, 167]), (184, [184, 167]), (188, [188, 167]), (194, [194, 167]), (167, [167]), (198, [198, 167]), (187, [187, 167]), (193, [193, 167]), (176, [176, 167]), (164, [164, 167]), (175, [175, 167]), (181, [181, 167]), (179, [179, 167]), (66, [66, 167])]
def gl : List (Nat × D) := [(16, .str [97, 98, 99, 100, 101, 102, 103, 104, 105, 106, 107, 108, 109, 110, 111, 112, 113, 114, 115, 116, 117, 118, 119, 120, 121, 122]), (15, .int 6)]
def nms : List (Nat × Str) := [(0, ("is_place" : Str)), (48, ("ascends" : Str)), (29, ("check_names" : Str)), (49, ("check_known" : Str)), (30, ("make_lot" : Str)), (50, ("is_lot" : Str)), (51, ("check_place" : Str)), (52, ("check_lot" : Str)), (53, ("check_places" : Str)), (1, ("_law_mix" : Str)), (2, ("_law_store" : Str)), (3, ("_law_take" : Str)), (4, ("_law_pick" : Str)), (31, ("_law_chance" : Str)), (5, ("_law_many" : Str)), (54, ("_law_some" : Str)), (6, ("_law_same" : Str)), (34, ("_law_ascends" : Str)), (7, ("_law_letters" : Str)), (8, ("_law_signs" : Str)), (35, ("_law_is_place" : Str)), (9, ("_law_name" : Str)), (36, ("_law_unlike" : Str)), (37, ("_law_world" : Str)), (55, ("_law_fresh" : Str)), (10, ("_law_bad_place" : Str)), (11, ("_law_raw_place" : Str)), (56, ("_law_bent_lot" : Str)), (57, ("_law_place_due" : Str)), (58, ("_law_lot_due" : Str)), (59, ("_law_world_due" : Str)), (41, ("_law_crowd" : Str)), (60, ("_law_clear" : Str)), (61, ("_law_ask" : Str)), (62, ("_law_fits" : Str)), (63, ("_law_tuple_right" : Str)), (64, ("_law_words_right" : Str)), (65, ("_law_great_right" : Str)), (14, ("law" : Str)), (15, ("MOST_LETTERS" : Str)), (16, ("LETTERS" : Str)), (17, ("text" : Str)), (47, ("names" : Str)), (46, ("BadPlace" : Str)), (66, ("Unknown" : Str)), (67, ("places" : Str)), (164, ("Repeated" : Str)), (169, ("place" : Str)), (170, ("BadLot" : Str)), (171, ("lot" : Str)), (201, ("most" : Str)), (179, ("TooMany" : Str)), (18, ("number" : Str)), (19, ("turn" : Str)), (20, ("script" : Str)), (21, ("store" : Str)), (22, ("many" : Str)), (23, ("row" : Str)), (24, ("least" : Str)), (25, ("bound" : Str)), (26, ("actual" : Str)), (27, ("due" : Str)), (165, ("name" : Str)), (166, ("taken" : Str)), (200, ("world" : Str)), (180, ("found" : Str)), (173, ("BadSaying" : Str)), (175, ("Shared" : Str)), (176, ("OtherPlaces" : Str)), (181, ("TooFew" : Str)), (182, ("BadRule" : Str)), (184, ("BadUse" : Str)), (186, ("BadNumber" : Str)), (187, ("NotKept" : Str)), (188, ("Disagree" : Str)), (190, ("BadTable" : Str)), (191, ("BadCell" : Str)), (193, ("NotTold" : Str)), (194, ("InUse" : Str)), (195, ("BadKind" : Str)), (196, ("BadText" : Str)), (198, ("NoChange" : Str)), (167, ("KeepError" : Str)), (168, ("error" : Str)), (202, ("check" : Str)), (203, ("limit" : Str)), (204, ("asked" : Str)), (205, ("worlds" : Str)), (206, ("words" : Str)), (172, ("item" : Str))]
def fr : List Str := ["ValueError", "all", "bool", "int", "isinstance", "len", "list", "max", "range", "sorted", "str", "tuple"]
def ld : LD := ⟨nms, gl, fr, [⟨0, f_is_place, N_is_place⟩, ⟨48, f_ascends, N_ascends⟩, ⟨29, f_check_names, N_check_names⟩, ⟨49, f_check_known, N_check_known⟩, ⟨30, f_make_lot, N_make_lot⟩, ⟨50, f_is_lot, N_is_lot⟩, ⟨51, f_check_place, N_check_place⟩, ⟨52, f_check_lot, N_check_lot⟩, ⟨53, f_check_places, N_check_places⟩, ⟨1, f__law_mix, N__law_mix⟩, ⟨2, f__law_store, N__law_store⟩, ⟨3, f__law_take, N__law_take⟩, ⟨4, f__law_pick, N__law_pick⟩, ⟨31, f__law_chance, N__law_chance⟩, ⟨5, f__law_many, N__law_many⟩, ⟨54, f__law_some, N__law_some⟩, ⟨6, f__law_same, N__law_same⟩, ⟨34, f__law_ascends, N__law_ascends⟩, ⟨7, f__law_letters, N__law_letters⟩, ⟨8, f__law_signs, N__law_signs⟩, ⟨35, f__law_is_place, N__law_is_place⟩, ⟨9, f__law_name, N__law_name⟩, ⟨36, f__law_unlike, N__law_unlike⟩, ⟨37, f__law_world, N__law_world⟩, ⟨55, f__law_fresh, N__law_fresh⟩, ⟨10, f__law_bad_place, N__law_bad_place⟩, ⟨11, f__law_raw_place, N__law_raw_place⟩, ⟨56, f__law_bent_lot, N__law_bent_lot⟩, ⟨57, f__law_place_due, N__law_place_due⟩, ⟨58, f__law_lot_due, N__law_lot_due⟩, ⟨59, f__law_world_due, N__law_world_due⟩, ⟨41, f__law_crowd, N__law_crowd⟩, ⟨60, f__law_clear, N__law_clear⟩, ⟨61, f__law_ask, N__law_ask⟩, ⟨62, f__law_fits, N__law_fits⟩, ⟨63, f__law_tuple_right, N__law_tuple_right⟩, ⟨64, f__law_words_right, N__law_words_right⟩, ⟨65, f__law_great_right, N__law_great_right⟩, ⟨14, f_law, N_law⟩], exL, csL⟩
end Lw
namespace Lh
open PI PySem PySem.W PySem.Calls PyProof.Rows Lw
abbrev R : OpenRow := OpenLaw.row PySem.Challenge.rw_keepsapart_k02_checks_of_lots
abbrev qv : Program := view R.prog [65]
def n0 : List PySem.Str := ["KeepError", "BadPlace", "BadLot", "Repeated", "BadSaying", "Unknown", "Shared", "OtherPlaces", "TooMany", "TooFew", "BadRule", "BadUse", "BadNumber", "NotKept", "Disagree", "BadTable", "BadCell", "NotTold", "InUse", "BadKind", "BadText", "NoChange", "LETTERS", "MOST_LETTERS", "is_place", "ascends", "check_names", "check_known", "make_lot", "is_lot"]
def n1 : List PySem.Str := ["check_place", "check_lot", "check_places", "_law_mix", "_law_store", "_law_take", "_law_pick", "_law_chance", "_law_many", "_law_some", "_law_same", "_law_ascends", "_law_letters", "_law_signs", "_law_is_place", "_law_name", "_law_unlike", "_law_world", "_law_fresh", "_law_bad_place", "_law_raw_place", "_law_bent_lot", "_law_place_due", "_law_lot_due", "_law_world_due", "_law_crowd", "_law_clear", "_law_ask", "_law_fits", "_law_tuple_right"]
def n2 : List PySem.Str := ["_law_words_right", "_law_great_right"]
def loose : List PySem.Str := n0 ++ n1 ++ n2
def top (i : Nat) : Stmt := PySem.Challenge.pw_keepsapart_k02_checks_of_lots.main.body.getD i (.Pass ⟨0, 0, 0, 0⟩)
def mkD (i : Nat) : He.DefD := match top i with
  | .FunctionDef n a b _ _ _ sc _ _ _ => ⟨(n, none), n, n, a, b, sc, [], []⟩
  | _ => ⟨("", none), "", "", default, [], default, [], []⟩
def mkI (i : Nat) : He.DefD := match top i with
  | .ClassDef c _ _ body _ _ _ _ _ _ _ => (match body.find? fun s => match s with
      | .FunctionDef "__init__" _ _ _ _ _ _ _ _ _ => true
      | _ => false with
    | some (.FunctionDef n a b _ _ _ sc _ _ _) => ⟨(c, some n), n, c ++ ("." : Str) ++ n, a, b, sc, [], []⟩
    | _ => ⟨("", none), "", "", default, [], default, [], []⟩)
  | _ => ⟨("", none), "", "", default, [], default, [], []⟩
def fn : List He.DefD := [mkD 26, mkD 27, mkD 28, mkD 29, mkD 30, mkD 31, mkD 32, mkD 33, mkD 34, mkD 36, mkD 37, mkD 38, mkD 39, mkD 40, mkD 41, mkD 42, mkD 43, mkD 44, mkD 45, mkD 46, mkD 47, mkD 48, mkD 49, mkD 50, mkD 51, mkD 52, mkD 53, mkD 54, mkD 55, mkD 56, mkD 57, mkD 58, mkD 59, mkD 60, mkD 61, mkD 62, mkD 63, mkD 64, mkD 65, mkI 2, mkI 3, mkI 4, mkI 6, mkI 9]
theorem chk : ld.chk fn = true := by kernel_rfl
abbrev hk : PySem.W.Hook := hookL (laidA 2180) ld.clB ld.fa fn
def ob (s : PySem.W.SharedT) : He.AlD × Bool × Bool := obsL (laidA 2180) ld.clB ld.fa fn (HandSHeadRun.getT s)
theorem ob_eq (s : PySem.W.SharedT) : ob s = hk.obs s.abs := obsL_eq (HandSHeadRun.getT_eq s)
noncomputable abbrev endR (w : World) (os : OsState) : Option PySem.W.SharedT := HandSHeadRun.endF (HandSHeadRun.stepQ (HandSHeadRun.denQ HandSHeadRun.tabQ) R.prog w) 20000 R.prog w os
theorem hrun1 (w : World) (os : OsState) : ((endR w os).map fun s => HandSHeadRun.looksF R.prog (PySem.W.boot_heap w.params) s.abs) = some true := by kernel_rfl
theorem hrun2 (w : World) (os : OsState) : ((endR w os).map fun s => HandSHeadRun.seenQ qv loose (importedModules R.prog.main.body) (fun s => xlAt qv [] s && recOk R.toRowW.records s) s.abs) = some (openGood qv loose) := by kernel_rfl
theorem hrun3 (w : World) (os : OsState) : (endR w os).map ob = some (hk.val w) := by kernel_rfl
theorem hrun (w : World) : HandSHeadRun.RunEq R qv hk ob 20000 loose w := fun os => parts3 (hrun1 w os) (hrun2 w os) (hrun3 w os)
end Lh

set_option maxRecDepth 100000
set_option maxHeartbeats 1000000
namespace PI





/-- a choice, its sides written down -/
noncomputable def brS (o : Option Bool) (c : Cl) (a b : List IS) (sl : SL) (L : LH) : RS := match o with
  | some true => execs c a sl L
  | some false => execs c b sl L
  | none => .stuck
noncomputable def brP (p : Prop) [Decidable p] (c : Cl) (a b : List IS) (sl : SL) (L : LH) : RS := if p then execs c a sl L else execs c b sl L
noncomputable def brE (o : Option Bool) (c : Cl) (a b : IE) (sl : SL) (L : LH) : R V2 := match o with
  | some true => ev c a sl L
  | some false => ev c b sl L
  | none => .stuck
noncomputable def brQ (p : Prop) [Decidable p] (c : Cl) (a b : IE) (sl : SL) (L : LH) : R V2 := if p then ev c a sl L else ev c b sl L
/-- x, or the value of an expression -/
noncomputable def brV (o : Option Bool) (c : Cl) (k : Bool) (x : V2) (b : IE) (sl : SL) (L : LH) : R V2 := match o with
  | some q => if q = k then .ok x L else ev c b sl L
  | none => .stuck
section
variable (c : Cl) (a b : List IS) (e f : IE) (sl : SL) (L : LH)
@[simp] theorem brS_t : brS (some true) c a b sl L = execs c a sl L := (Eq.refl _).trans rfl
@[simp] theorem brS_f : brS (some false) c a b sl L = execs c b sl L := (Eq.refl _).trans rfl
@[simp] theorem brS_d (p : Prop) [Decidable p] : brS (some (decide p)) c a b sl L = brP p c a b sl L := by
  unfold brP
  by_cases h : p <;> simp [h]
@[simp] theorem brS_n (p : Prop) [Decidable p] : brS (some (!decide p)) c a b sl L = brP p c b a sl L := by
  unfold brP
  by_cases h : p <;> simp [h]
theorem brP_pos {p : Prop} [Decidable p] (h : p) : brP p c a b sl L = execs c a sl L := if_pos h
theorem brP_neg {p : Prop} [Decidable p] (h : ¬ p) : brP p c a b sl L = execs c b sl L := if_neg h
@[simp] theorem brP_T [Decidable True] : brP True c a b sl L = execs c a sl L := if_pos trivial
@[simp] theorem brP_F [Decidable False] : brP False c a b sl L = execs c b sl L := if_neg not_false
@[simp] theorem brE_t : brE (some true) c e f sl L = ev c e sl L := (Eq.refl _).trans rfl
@[simp] theorem brE_f : brE (some false) c e f sl L = ev c f sl L := (Eq.refl _).trans rfl
@[simp] theorem brE_d (p : Prop) [Decidable p] : brE (some (decide p)) c e f sl L = brQ p c e f sl L := by
  unfold brQ
  by_cases h : p <;> simp [h]
theorem brQ_pos {p : Prop} [Decidable p] (h : p) : brQ p c e f sl L = ev c e sl L := if_pos h
theorem brQ_neg {p : Prop} [Decidable p] (h : ¬ p) : brQ p c e f sl L = ev c f sl L := if_neg h
@[simp] theorem brQ_T [Decidable True] : brQ True c e f sl L = ev c e sl L := if_pos trivial
@[simp] theorem brQ_F [Decidable False] : brQ False c e f sl L = ev c f sl L := if_neg not_false
@[simp] theorem brV_tt (x : V2) : brV (some true) c true x e sl L = .ok x L := rfl
@[simp] theorem brV_ff (x : V2) : brV (some false) c false x e sl L = .ok x L := rfl
@[simp] theorem brV_tf (x : V2) : brV (some true) c false x e sl L = ev c e sl L := (Eq.refl _).trans rfl
@[simp] theorem brV_ft (x : V2) : brV (some false) c true x e sl L = ev c e sl L := (Eq.refl _).trans rfl
end
/-- one statement, then the rest -/
noncomputable def seqS' (r : RS) (c : Cl) (rest : List IS) : RS := r.thn fun s' L' => execs c rest s' L'
section
variable (c : Cl) (rest : List IS) (sl : SL) (L : LH)
@[simp] theorem seqS_nx : seqS' (.nx sl L) c rest = execs c rest sl L := (Eq.refl _).trans rfl
@[simp] theorem seqS_rt (v : V2) : seqS' (.rt v L) c rest = .rt v L := rfl
@[simp] theorem seqS_bk : seqS' (.bk sl L) c rest = .bk sl L := rfl
@[simp] theorem seqS_ct : seqS' (.ct sl L) c rest = .ct sl L := rfl
@[simp] theorem seqS_exc (C : Nat) (fs : List (Nat × D)) : seqS' (.exc C fs sl L) c rest = .exc C fs sl L := rfl
end
section
variable (P : Prog) (hot : Bool) (k : Nat)
@[simp] theorem cl_hot : (cl P hot k).hot = hot := rfl
@[simp] theorem cl_glob : (cl P hot k).glob = P.glob := rfl
@[simp] theorem cl_kit : (cl P hot k).kit = P.kit := rfl
@[simp] theorem cl_exc : (cl P hot k).exc = P.exc := rfl
@[simp] theorem cl_sub : (cl P hot k).sub = P.sub := rfl
@[simp] theorem cl_heat' : (cl P hot k).heat = cl P true k := rfl
end
/-- a def is called -/
noncomputable def callK (P : Prog) (hot : Bool) (k : Nat) (own : Bool) (o : Option (List V2)) (f : Nat) (L : LH) : R V2 := match o with
  | some zs => (call P hot k f zs L).bind fun r L3 => frzd own L.length r L3
  | none => .stuck
@[simp] theorem callK_some (P : Prog) (hot : Bool) (k : Nat) (own : Bool) (zs : List V2) (f : Nat) (L : LH) : callK P hot k own (some zs) f L = (call P hot k f zs L).bind fun r L3 => frzd own L.length r L3 := (Eq.refl _).trans rfl
/-- a walk begins -/
noncomputable def compK (F : SL → LH → R (Option D)) (own : Bool) (tg : ITg) (sl : SL) (src : Option Nat) (o : Option (List D)) (L : LH) : R V2 := match o with
  | some ds => (compGo F tg sl src ds L.length ds [] L).bind fun ys L2 => newL own ys L2
  | none => .stuck
theorem compK_some (F : SL → LH → R (Option D)) (own : Bool) (tg : ITg) (sl : SL) (src : Option Nat) (ds : List D) (L : LH) : compK F own tg sl src (some ds) L = (compGo F tg sl src ds L.length ds [] L).bind fun ys L2 => newL own ys L2 := (Eq.refl _).trans rfl

noncomputable def forK (F : SL → LH → RS) (tg : ITg) (src : Option Nat) (o : Option (List D)) (sl : SL) (L : LH) : RS := match o with
  | some ds => forGo F tg src ds ds sl L
  | none => .stuck
@[simp] theorem forK_some (F : SL → LH → RS) (tg : ITg) (src : Option Nat) (ds : List D) (sl : SL) (L : LH) : forK F tg src (some ds) sl L = forGo F tg src ds ds sl L := (Eq.refl _).trans rfl

def icK (o : Option Bool) (L : LH) : R V2 := match o with
  | some k => .ok (.val (.bl k)) L
  | none => .stuck
@[simp] theorem icK_some (k : Bool) (L : LH) : icK (some k) L = .ok (.val (.bl k)) L := rfl
def fldK (e : Option (Nat × List (Nat × Nat))) (x : V2) (f : Nat) (L : LH) : R V2 := match x with
  | .exn C fs => if excFld e f then R.opt ((fs.lookup f).map V2.val) L else .stuck
  | _ => .stuck
/-- all as data -/
def datK (xs : List V2) (f : List D → R V2) : R V2 := match dats xs with
  | some ds => f ds
  | none => .stuck
@[simp] theorem datK_eq (xs : List V2) (f : List D → R V2) (ds : List D) (h : dats xs = some ds) : datK xs f = f ds := by unfold datK; rw [h]

section
variable (P : Prog) (hot : Bool) (k : Nat) (sl : SL) (L : LH) (own : Bool)
@[simp] theorem z_c (d : D) : ev (cl P hot k) (.c d) sl L = .ok (.val d) L := by simp only [ev]
def slK (o : Option (Option V2)) (L : LH) : R V2 := match o with
  | some (some x) => .ok x L
  | _ => .stuck
@[simp] theorem slK_some (x : V2) : slK (some (some x)) L = .ok x L := rfl
@[simp] theorem z_v (i : Nat) : ev (cl P hot k) (.v i) sl L = slK sl[i]? L := by
  simp only [ev]
  unfold slK
  rfl
@[simp] theorem z_g (x : Nat) : ev (cl P hot k) (.g x) sl L = .ok (.val (P.glob x)) L := by simp only [ev, cl_glob]
@[simp] theorem z_tup (es : List IE) : ev (cl P hot k) (.tup es) sl L = (evs (cl P hot k) es sl L).bind fun xs L1 => datK xs fun ds => newT ds L1 := by
  simp only [ev]
  cases evs (cl P hot k) es sl L <;> rfl
@[simp] theorem z_lst (es : List IE) : ev (cl P hot k) (.lst own es) sl L = (evs (cl P hot k) es sl L).bind fun xs L1 => datK xs fun ds => newL own ds L1 := by
  simp only [ev]
  cases evs (cl P hot k) es sl L <;> rfl
@[simp] theorem z_bin (op : OpB) (a b : IE) : ev (cl P hot k) (.bin op own a b) sl L = (ev (cl P hot k) a sl L).bind fun x L1 => (ev (cl P hot k) b sl L1).bind fun y L2 => binV op own x y L2 := by simp only [ev]
def negK (x : V2) (L : LH) : R V2 := match x with
  | .val (.int i) => .ok (.val (.int (-i))) L
  | _ => .stuck
@[simp] theorem negK_int (i : Int) : negK (.val (.int i)) L = .ok (.val (.int (-i))) L := rfl
@[simp] theorem z_neg (a : IE) : ev (cl P hot k) (.neg a) sl L = (ev (cl P hot k) a sl L).bind fun x L1 => negK x L1 := by
  simp only [ev]
  cases ev (cl P hot k) a sl L <;> rfl
@[simp] theorem z_cmp (op : OpC) (a b : IE) : ev (cl P hot k) (.cmp op a b) sl L = (ev (cl P hot k) a sl L).bind fun x L1 => (ev (cl P hot k) b sl L1).bind fun y L2 => cmpR op x y L2 := by simp only [ev]
noncomputable def chK (o : Option Bool) (c : Cl) (o2 : OpC) (y : V2) (d : IE) (sl : SL) (L : LH) : R V2 := match o with
  | some true => (ev c d sl L).bind fun w L4 => cmpR o2 y w L4
  | some false => .ok (.val (.bl false)) L
  | none => .stuck
@[simp] theorem chK_t (c : Cl) (o2 : OpC) (y : V2) (d : IE) : chK (some true) c o2 y d sl L = (ev c d sl L).bind fun w L4 => cmpR o2 y w L4 := (Eq.refl _).trans rfl
@[simp] theorem chK_f (c : Cl) (o2 : OpC) (y : V2) (d : IE) : chK (some false) c o2 y d sl L = .ok (.val (.bl false)) L := rfl
@[simp] theorem z_chain (o1 o2 : OpC) (a b d : IE) : ev (cl P hot k) (.chain o1 o2 a b d) sl L = (ev (cl P hot k) a sl L).bind fun x L1 => (ev (cl P hot k) b sl L1).bind fun y L2 => (cmpR o1 x y L2).bind fun z L3 => chK (z.truth L3) (cl P hot k) o2 y d sl L3 := by
  simp only [ev]
  cases ev (cl P hot k) a sl L with
  | stuck => rfl
  | exc _ _ _ => rfl
  | ok x L1 =>
    simp only [R.bind_ok]
    cases ev (cl P hot k) b sl L1 with
    | stuck => rfl
    | exc _ _ _ => rfl
    | ok y L2 =>
      simp only [R.bind_ok]
      unfold cmpR
      cases cmpV o1 x y L2 with
      | none => rfl
      | some b => cases b <;> rfl
@[simp] theorem z_and (a b : IE) : ev (cl P hot k) (.and a b) sl L = (ev (cl P hot k) a sl L).bind fun x L1 => brV (x.truth L1) (cl P hot k) false x b sl L1 := by
  simp only [ev]
  cases ev (cl P hot k) a sl L with
  | stuck => rfl
  | exc _ _ _ => rfl
  | ok x L1 =>
    simp only [R.bind_ok]
    cases x.truth L1 with
    | none => rfl
    | some b => cases b <;> rfl
@[simp] theorem z_or (a b : IE) : ev (cl P hot k) (.or a b) sl L = (ev (cl P hot k) a sl L).bind fun x L1 => brV (x.truth L1) (cl P hot k) true x b sl L1 := by
  simp only [ev]
  cases ev (cl P hot k) a sl L with
  | stuck => rfl
  | exc _ _ _ => rfl
  | ok x L1 =>
    simp only [R.bind_ok]
    cases x.truth L1 with
    | none => rfl
    | some b => cases b <;> rfl
@[simp] theorem z_not (a : IE) : ev (cl P hot k) (.not a) sl L = (ev (cl P hot k) a sl L).bind fun x L1 => icK ((x.truth L1).map (!·)) L1 := by
  simp only [ev]
  cases ev (cl P hot k) a sl L with
  | stuck => rfl
  | exc _ _ _ => rfl
  | ok x L1 =>
    simp only [R.bind_ok]
    cases x.truth L1 <;> rfl
@[simp] theorem z_ife (t a b : IE) : ev (cl P hot k) (.ife t a b) sl L = (ev (cl P hot k) t sl L).bind fun x L1 => brE (x.truth L1) (cl P hot k) a b sl L1 := by
  simp only [ev]
  cases ev (cl P hot k) t sl L with
  | stuck => rfl
  | exc _ _ _ => rfl
  | ok x L1 =>
    simp only [R.bind_ok]
    cases x.truth L1 with
    | none => rfl
    | some b => cases b <;> rfl
@[simp] theorem z_sub (a i : IE) : ev (cl P hot k) (.sub a i) sl L = (ev (cl P hot k) a sl L).bind fun x L1 => (ev (cl P hot k) i sl L1).bind fun y L2 => subV x y L2 := by simp only [ev]
@[simp] theorem z_slice (a : IE) (lo hi : Option IE) : ev (cl P hot k) (.slice own a lo hi) sl L = (ev (cl P hot k) a sl L).bind fun x L1 => (evp (cl P hot k) lo sl L1).bind fun l L2 => (evp (cl P hot k) hi sl L2).bind fun h L3 => sliceV own x l h L3 := by simp only [ev]
@[simp] theorem z_rev (a : IE) : ev (cl P hot k) (.rev own a) sl L = (ev (cl P hot k) a sl L).bind fun x L1 => revV own x L1 := by simp only [ev]
@[simp] theorem z_call (f : Nat) (es : List IE) (ks : List (Nat × IE)) : ev (cl P hot k) (.call own f es ks) sl L = (evs (cl P hot k) es sl L).bind fun xs L1 => (evk (cl P hot k) ks sl L1).bind fun ys L2 => callK P hot k own (P.bind f xs ys) f L2 := by
  simp only [ev]
  rfl
@[simp] theorem z_bi (b : BI) (es : List IE) (h : (hot && b.calm) = false) : ev (cl P hot k) (.bi own b es) sl L = (evs (cl P hot k) es sl L).bind fun xs L1 => biV own b xs L1 := by
  simp only [ev, cl_hot, h, Bool.false_eq_true, if_false]
@[simp] theorem z_isi (e : IE) (cs : List IC) : ev (cl P hot k) (.isi e cs) sl L = (ev (cl P hot k) e sl L).bind fun x L1 => icK (isIC P.kit L1 x cs) L1 := by
  simp only [ev, cl_kit]
  cases ev (cl P hot k) e sl L with
  | stuck => rfl
  | exc _ _ _ => rfl
  | ok x L1 => rfl
@[simp] theorem z_comp (elt : IE) (tg : ITg) (ik : IK) (it ts : List IE) : ev (cl P false k) (.comp own elt tg ik it ts) sl L = (evs (cl P false k) it sl L).bind fun xs L1 => compK (turnF (cl P false k) ts elt) own tg sl (srcOf ik xs) (itemsV ik xs L1) L1 := by
  simp only [ev, cl_hot, Bool.false_eq_true, if_false]
  rfl
@[simp] theorem z_fld (e : IE) (f : Nat) : ev (cl P hot k) (.fld e f) sl L = (ev (cl P hot k) e sl L).bind fun x L1 => fldK (P.exc (match x with | .exn C _ => C | _ => 0)) x f L1 := by
  simp only [ev, cl_exc]
  cases ev (cl P hot k) e sl L with
  | stuck => rfl
  | exc _ _ _ => rfl
  | ok x L1 => cases x <;> rfl
@[simp] theorem z_dnewT : ev (cl P hot k) (.dnew true) sl L = .ok (.ref L.length) (L ++ [.dct []]) := by simp only [ev, if_true]
@[simp] theorem z_dnewF : ev (cl P hot k) (.dnew false) sl L = .ok (.val (.dct [])) L := by simp only [ev, Bool.false_eq_true, if_false]
/-- a method's receiver is right -/
noncomputable def methK (c : Cl) (own : Bool) (m : MI) (x : V2) (es : List IE) (sl : SL) (b : Bool) (L : LH) : R V2 := if b then (evs c es sl L).bind fun xs L2 => methV own m x xs L2 else .stuck

@[simp] theorem methK_t (c : Cl) (m : MI) (x : V2) (es : List IE) : methK c own m x es sl true L = (evs c es sl L).bind fun xs L2 => methV own m x xs L2 := (Eq.refl _).trans rfl
@[simp] theorem z_meth (m : MI) (e : IE) (es : List IE) : ev (cl P hot k) (.meth own m e es) sl L = (ev (cl P hot k) e sl L).bind fun x L1 => methK (cl P hot k) own m x es sl (methTy m x L1) L1 := by
  simp only [ev]
  rfl
@[simp] theorem z_evs0 : evs (cl P hot k) [] sl L = .ok [] L := by simp only [evs]
@[simp] theorem z_evs1 (e : IE) (r : List IE) : evs (cl P hot k) (e :: r) sl L = (ev (cl P hot k) e sl L).bind fun x L1 => (evs (cl P hot k) r sl L1).bind fun xs L2 => .ok (x :: xs) L2 := by simp only [evs]
@[simp] theorem z_evk0 : evk (cl P hot k) [] sl L = .ok [] L := by simp only [evk]
@[simp] theorem z_evk1 (n : Nat) (e : IE) (r : List (Nat × IE)) : evk (cl P hot k) ((n, e) :: r) sl L = (ev (cl P hot k) e sl L).bind fun x L1 => (evk (cl P hot k) r sl L1).bind fun xs L2 => .ok ((n, x) :: xs) L2 := by simp only [evk]
def intK (o : Option Int) (L : LH) : R (Option Int) := match o with
  | some i => .ok (some i) L
  | none => .stuck
@[simp] theorem intK_some (i : Int) : intK (some i) L = .ok (some i) L := rfl
@[simp] theorem z_evp0 : evp (cl P hot k) none sl L = .ok none L := by simp only [evp]
@[simp] theorem z_evp1 (e : IE) : evp (cl P hot k) (some e) sl L = (ev (cl P hot k) e sl L).bind fun x L1 => intK x.int? L1 := by
  simp only [evp]
  cases ev (cl P hot k) e sl L with
  | stuck => rfl
  | exc _ _ _ => rfl
  | ok x L1 =>
    simp only [R.bind_ok]
    cases x.int? <;> rfl
@[simp] theorem z_set (i : Nat) (X : IE) : exec (cl P hot k) (.set i X) sl L = (ev (cl P hot k) X sl L).st sl fun x L1 => .nx (sl.set i (some x)) L1 := by simp only [exec]
def unpK (o : Option SL) (L : LH) : RS := match o with
  | some sl => .nx sl L
  | none => .stuck
@[simp] theorem unpK_some : unpK (some sl) L = .nx sl L := rfl
@[simp] theorem z_unp (is : List Nat) (X : IE) : exec (cl P false k) (.unp is X) sl L = (ev (cl P false k) X sl L).st sl fun x L1 => unpK (unpV is x sl) L1 := by
  simp only [exec, cl_hot, Bool.false_eq_true, if_false]
  rfl
def putK' (sl : SL) (o : Option LH) : RS := match o with
  | some L => .nx sl L
  | none => .stuck
@[simp] theorem putK'_some : putK' sl (some L) = .nx sl L := rfl
def putD (x : V2) (k : V2) (y : V2) (L : LH) : Option LH := match y with
  | .val d => putV x k d L
  | _ => none
@[simp] theorem putD_val (x k : V2) (d : D) : putD x k (.val d) L = putV x k d L := rfl
@[simp] theorem z_put (o i X : IE) : exec (cl P hot k) (.put o i X) sl L = (ev (cl P hot k) X sl L).st sl fun y L1 => (ev (cl P hot k) o sl L1).st sl fun x L2 => (ev (cl P hot k) i sl L2).st sl fun k' L3 => putK' sl (putD x k' y L3) := by
  simp only [exec]
  cases ev (cl P hot k) X sl L with
  | stuck => rfl
  | exc _ _ _ => rfl
  | ok y L1 =>
    simp only [R.st_ok]
    cases ev (cl P hot k) o sl L1 with
    | stuck => rfl
    | exc _ _ _ => rfl
    | ok x L2 =>
      simp only [R.st_ok]
      cases ev (cl P hot k) i sl L2 with
      | stuck => rfl
      | exc _ _ _ => rfl
      | ok k' L3 => cases y <;> rfl
@[simp] theorem z_ex (X : IE) : exec (cl P hot k) (.ex X) sl L = (ev (cl P hot k) X sl L).st sl fun _ L1 => .nx sl L1 := by simp only [exec]
@[simp] theorem z_ret (X : IE) : exec (cl P hot k) (.ret (some X)) sl L = (ev (cl P hot k) X sl L).st sl fun x L1 => .rt x L1 := by simp only [exec]
@[simp] theorem z_retN : exec (cl P hot k) (.ret none) sl L = .rt (.val .non) L := by simp only [exec]
@[simp] theorem z_if (t : IE) (a b : List IS) : exec (cl P hot k) (.ife t a b) sl L = (ev (cl P hot k) t sl L).st sl fun x L1 => brS (x.truth L1) (cl P hot k) a b sl L1 := by
  simp only [exec, evt]
  cases ev (cl P hot k) t sl L with
  | stuck => rfl
  | exc _ _ _ => rfl
  | ok x L1 =>
    simp only [R.bind_ok, R.st_ok]
    cases h : x.truth L1 with
    | none => rfl
    | some b => cases b <;> rfl
@[simp] theorem z_for (tg : ITg) (ik : IK) (it : List IE) (b : List IS) : exec (cl P false k) (.for_ tg ik it b) sl L = (evs (cl P false k) it sl L).st sl fun xs L1 => forK (fun s' L' => execs (cl P false k) b s' L') tg (srcOf ik xs) (itemsV ik xs L1) sl L1 := by
  simp only [exec, cl_hot, Bool.false_eq_true, if_false]
  cases evs (cl P false k) it sl L <;> rfl
@[simp] theorem z_pass : exec (cl P hot k) .pass sl L = .nx sl L := by simp only [exec]
@[simp] theorem z_brk : exec (cl P hot k) .brk sl L = .bk sl L := by simp only [exec]
@[simp] theorem z_cont : exec (cl P hot k) .cont sl L = .ct sl L := by simp only [exec]
def raiseK (nl : Option (Nat × List (Nat × Nat))) (C : Nat) (o : Option (List D)) (sl : SL) (L : LH) : RS := match nl, o with
  | some nl, some ds => if ds.length = nl.1 then .exc C (fldD ds nl.2 []) sl L else .stuck
  | _, _ => .stuck
@[simp] theorem raiseK_some (nl : Nat × List (Nat × Nat)) (C : Nat) (ds : List D) (h : ds.length = nl.1) : raiseK (some nl) C (some ds) sl L = .exc C (fldD ds nl.2 []) sl L := by
  show (if ds.length = nl.1 then _ else _) = _
  rw [if_pos h]
@[simp] theorem z_raise (C : Nat) (es : List IE) : exec (cl P false k) (.raise C es) sl L = (if (P.exc C).isSome then (evs (cl P false k) es sl L).st sl fun xs L1 => raiseK (P.exc C) C (dats xs) sl L1 else .stuck) := by
  simp only [exec, cl_hot, Bool.false_eq_true, if_false, cl_exc]
  cases h : P.exc C with
  | none => rfl
  | some nl =>
    simp only [Option.isSome_some, if_true]
    cases evs (cl P false k) es sl L with
    | stuck => rfl
    | exc _ _ _ => rfl
    | ok xs L1 =>
      simp only [R.st_ok, raiseK]
      cases dats xs <;> rfl
noncomputable def tryS (P : Prog) (k C i : Nat) (h : List IS) (r : RS) : RS := r.tried (P.sub · C) fun D fs s1 L1 => (execs (cl P true k) h (s1.set i (some (.exn D fs))) L1).gone i
noncomputable def tryK (o : Option Bool) (P : Prog) (k i : Nat) (h : List IS) (E : Nat) (fs : List (Nat × D)) (sl : SL) (L : LH) : RS := match o with
  | some true => (execs (cl P true k) h (sl.set i (some (.exn E fs))) L).gone i
  | some false => .exc E fs sl L
  | none => .stuck
@[simp] theorem tryK_t (i : Nat) (h : List IS) (E : Nat) (fs : List (Nat × D)) : tryK (some true) P k i h E fs sl L = (execs (cl P true k) h (sl.set i (some (.exn E fs))) L).gone i := (Eq.refl _).trans rfl
@[simp] theorem tryK_f (i : Nat) (h : List IS) (E : Nat) (fs : List (Nat × D)) : tryK (some false) P k i h E fs sl L = .exc E fs sl L := rfl
@[simp] theorem tryS_nx (C i : Nat) (h : List IS) : tryS P k C i h (.nx sl L) = .nx sl L := rfl
@[simp] theorem tryS_rt (C i : Nat) (h : List IS) (v : V2) : tryS P k C i h (.rt v L) = .rt v L := rfl
@[simp] theorem tryS_bk (C i : Nat) (h : List IS) : tryS P k C i h (.bk sl L) = .bk sl L := rfl
@[simp] theorem tryS_ct (C i : Nat) (h : List IS) : tryS P k C i h (.ct sl L) = .ct sl L := rfl
@[simp] theorem tryS_exc (C i : Nat) (h : List IS) (E : Nat) (fs : List (Nat × D)) : tryS P k C i h (.exc E fs sl L) = tryK (P.sub E C) P k i h E fs sl L := rfl
@[simp] theorem z_try (b : List IS) (C i : Nat) (h : List IS) : exec (cl P false k) (.try_ b C i h) sl L = tryS P k C i h (execs (cl P false k) b sl L) := by
  simp only [exec, cl_hot, Bool.false_eq_true, if_false, cl_sub, cl_heat']
  rfl
@[simp] theorem z_frzS (i : Nat) : exec (cl P hot k) (.frz i) sl L = frzSlot sl L i := by simp only [exec]
@[simp] theorem z_nil : execs (cl P hot k) [] sl L = .nx sl L := by simp only [execs]
@[simp] theorem z_cons (s : IS) (r : List IS) : execs (cl P hot k) (s :: r) sl L = seqS' (exec (cl P hot k) s sl L) (cl P hot k) r := by
  simp only [execs]
  rfl
@[simp] theorem gone_rt (i : Nat) (d : D) : (RS.rt (.val d) L).gone i = .rt (.val d) L := rfl
@[simp] theorem gone_rtr (i n : Nat) : (RS.rt (.ref n) L).gone i = .rt (.ref n) L := rfl
@[simp] theorem gone_nx (i : Nat) : (RS.nx sl L).gone i = .nx ((sl.map noExn).set i none) L := rfl
@[simp] theorem noExn_n : noExn none = none := rfl
@[simp] theorem noExn_v (d : D) : noExn (some (.val d)) = some (.val d) := rfl
@[simp] theorem noExn_r (n : Nat) : noExn (some (.ref n)) = some (.ref n) := rfl
@[simp] theorem noExn_e (C : Nat) (fs : List (Nat × D)) : noExn (some (.exn C fs)) = none := rfl
@[simp] theorem fin_nx (n : Nat) : (RS.nx sl L).fin n = .ok (.val .non) (L.take n) := rfl
@[simp] theorem fin_rtv (n : Nat) (d : D) : (RS.rt (.val d) L).fin n = .ok (.val d) (L.take n) := rfl
@[simp] theorem fin_exc (n C : Nat) (fs : List (Nat × D)) : (RS.exc C fs sl L).fin n = .exc C fs (L.take n) := rfl
@[simp] theorem fin_rtr (n : Nat) (m : Nat) : (RS.rt (.ref m) L).fin n = retV n (.ref m) L := rfl
theorem retV_old {n m : Nat} (h : m < n) : retV n (.ref m) L = .ok (.ref m) (L.take n) := by simp [retV, h]
theorem retV_new {n m : Nat} (h : n ≤ m) {xs : List D} (e : L[m]? = some (.lst xs)) : retV n (.ref m) L = .ok (.ref n) (L.take n ++ [.lst xs]) := by
  simp [retV, show ¬ m < n by omega, e]
end
end PI

set_option maxRecDepth 100000
set_option maxHeartbeats 1000000
namespace PI
open PySem
def lstO : Option LO → Option (List D)
  | some (.lst xs) => some xs
  | _ => none
def viewO : Option LO → Option D
  | some (.lst xs) => some (.lst xs)
  | _ => none
def dctO : Option LO → Option (List (D × D))
  | some (.dct xs) => some xs
  | _ => none
def truthO : Option LO → Option Bool
  | some (.lst xs) => some (!xs.isEmpty)
  | some (.dct kvs) => some (!kvs.isEmpty)
  | _ => none
section
variable (L : LH) (xs : List D) (kvs : List (D × D)) (i j : Int) (b b' : Bool) (s t : List Nat) (d d' : D) (n m : Nat) (own : Bool) (w : List Nat) (ws : List (List Nat))
@[simp] theorem lstO_l : lstO (some (.lst xs)) = some xs := rfl
@[simp] theorem lstO_d : lstO (some (.dct kvs)) = none := rfl
@[simp] theorem viewO_l : viewO (some (.lst xs)) = some (.lst xs) := rfl
@[simp] theorem dctO_d : dctO (some (.dct kvs)) = some kvs := rfl
@[simp] theorem dctO_l : dctO (some (.lst xs)) = none := rfl
@[simp] theorem truthO_l : truthO (some (.lst xs)) = some (!xs.isEmpty) := rfl
@[simp] theorem truthO_d : truthO (some (.dct kvs)) = some (!kvs.isEmpty) := rfl
@[simp] theorem lst_r : V2.lst? L (.ref n) = lstO L[n]? := rfl
@[simp] theorem lst_l : V2.lst? L (.val (.lst xs)) = some xs := rfl
@[simp] theorem lst_t : V2.lst? L (.val (.tup xs)) = none := rfl
@[simp] theorem lst_s : V2.lst? L (.val (.str s)) = none := rfl
@[simp] theorem lst_i : V2.lst? L (.val (.int i)) = none := rfl
@[simp] theorem lst_n : V2.lst? L (.val .non) = none := rfl
@[simp] theorem seq_r : V2.seq? L (.ref n) = lstO L[n]? := rfl
@[simp] theorem seq_l : V2.seq? L (.val (.lst xs)) = some xs := rfl
@[simp] theorem seq_t : V2.seq? L (.val (.tup xs)) = some xs := rfl
@[simp] theorem seq_s : V2.seq? L (.val (.str s)) = none := rfl
@[simp] theorem dct_r : V2.dct? L (.ref n) = dctO L[n]? := rfl
@[simp] theorem dct_l : V2.dct? L (.val (.lst xs)) = none := rfl
@[simp] theorem dct_t : V2.dct? L (.val (.tup xs)) = none := rfl
@[simp] theorem dct_s : V2.dct? L (.val (.str s)) = none := rfl
@[simp] theorem dct_d : V2.dct? L (.val (.dct kvs)) = some kvs := rfl
@[simp] theorem view_v : V2.view L (.val d) = some d := rfl
@[simp] theorem view_r : V2.view L (.ref n) = viewO L[n]? := rfl
@[simp] theorem tr_b : V2.truth L (.val (.bl b)) = some b := rfl
@[simp] theorem tr_n : V2.truth L (.val .non) = some false := rfl
@[simp] theorem tr_i : V2.truth L (.val (.int i)) = some (!decide (i = 0)) := by
  show some (i != 0) = _
  rfl
@[simp] theorem tr_s : V2.truth L (.val (.str s)) = some (!s.isEmpty) := rfl
@[simp] theorem tr_t : V2.truth L (.val (.tup xs)) = some (!xs.isEmpty) := rfl
@[simp] theorem tr_l : V2.truth L (.val (.lst xs)) = some (!xs.isEmpty) := rfl
@[simp] theorem tr_r : V2.truth L (.ref n) = truthO L[n]? := rfl
@[simp] theorem int_i : V2.int? (.val (.int i)) = some i := rfl
@[simp] theorem int_s : V2.int? (.val (.str s)) = none := rfl
@[simp] theorem int_t : V2.int? (.val (.tup xs)) = none := rfl
@[simp] theorem int_l : V2.int? (.val (.lst xs)) = none := rfl
@[simp] theorem int_r : V2.int? (.ref n) = none := rfl
@[simp] theorem dat_v : V2.dat? (.val d) = some d := rfl
@[simp] theorem dats_0 : dats [] = some [] := rfl
@[simp] theorem dats_1 (r : List V2) : dats (.val d :: r) = (dats r).map (d :: ·) := rfl
@[simp] theorem hp_get (R r : LH) (k : Nat) : (R ++ r)[R.length + k]? = r[k]? := by
  rw [List.getElem?_append_right (by omega)]
  congr 1
  omega
@[simp] theorem hp_get0 (R r : LH) : (R ++ r)[R.length]? = r[0]? := by
  rw [List.getElem?_append_right (Nat.le_refl _)]
  congr 1
  omega
@[simp] theorem hp_set (R r : LH) (k : Nat) (x : LO) : (R ++ r).set (R.length + k) x = R ++ r.set k x := by
  rw [List.set_append_right _ _ (by omega)]
  congr 2
  omega
@[simp] theorem hp_set0 (R r : LH) (x : LO) : (R ++ r).set R.length x = R ++ r.set 0 x := by
  rw [List.set_append_right _ _ (Nat.le_refl _)]
  congr 2
  omega
@[simp] theorem hp_take (R r : LH) (k : Nat) : (R ++ r).take (R.length + k) = R ++ r.take k := by
  rw [List.take_append, List.take_of_length_le (by omega), Nat.add_sub_cancel_left]
@[simp] theorem hp_take0 (R r : LH) : (R ++ r).take R.length = R := by
  rw [List.take_append, List.take_of_length_le (Nat.le_refl _), Nat.sub_self]
  simp
@[simp] theorem nat_two (k : Nat) : k + 1 + 1 = k + 2 := rfl
@[simp] theorem nat_three (k : Nat) : k + 2 + 1 = k + 3 := rfl
@[simp] theorem nat_four (k : Nat) : k + 3 + 1 = k + 4 := rfl
@[simp] theorem cmp_eqI : cmpR .eq (.val (.int i)) (.val (.int j)) L = .ok (.val (.bl (decide (i = j)))) L := by
  have : (i == j) = decide (i = j) := rfl
  simp [cmpR, cmpV, cmpEq, okd, D.okd, D.eqv, this]
@[simp] theorem cmp_neI : cmpR .ne (.val (.int i)) (.val (.int j)) L = .ok (.val (.bl (!decide (i = j)))) L := by
  have : (i == j) = decide (i = j) := rfl
  simp [cmpR, cmpV, cmpEq, okd, D.okd, D.eqv, this]
@[simp] theorem cmp_eqS : cmpR .eq (.val (.str s)) (.val (.str t)) L = .ok (.val (.bl (decide (s = t)))) L := by
  have : (s == t) = decide (s = t) := by
    by_cases h : s = t <;> simp [h]
  simp [cmpR, cmpV, cmpEq, okd, D.okd, D.eqv, this]
@[simp] theorem cmp_neS : cmpR .ne (.val (.str s)) (.val (.str t)) L = .ok (.val (.bl (!decide (s = t)))) L := by
  have : (s == t) = decide (s = t) := by
    by_cases h : s = t <;> simp [h]
  simp [cmpR, cmpV, cmpEq, okd, D.okd, D.eqv, this]
@[simp] theorem cmp_ltI : cmpR .lt (.val (.int i)) (.val (.int j)) L = .ok (.val (.bl (decide (i < j)))) L := rfl
@[simp] theorem cmp_leI : cmpR .le (.val (.int i)) (.val (.int j)) L = .ok (.val (.bl (decide (i ≤ j)))) L := rfl
@[simp] theorem cmp_gtI : cmpR .gt (.val (.int i)) (.val (.int j)) L = .ok (.val (.bl (decide (j < i)))) L := rfl
@[simp] theorem cmp_geI : cmpR .ge (.val (.int i)) (.val (.int j)) L = .ok (.val (.bl (decide (j ≤ i)))) L := rfl
@[simp] theorem cmp_ltS : cmpR .lt (.val (.str s)) (.val (.str t)) L = .ok (.val (.bl (decide (s < t)))) L := rfl
@[simp] theorem cmp_is (x y : V2) : cmpR .is x y L = icK (cmpIs x y) L := by
  simp only [cmpR, cmpV, icK] <;> cases cmpIs x y <;> rfl
@[simp] theorem cmp_isN (x y : V2) : cmpR .isNot x y L = icK ((cmpIs x y).map (!·)) L := by
  simp only [cmpR, cmpV, icK] <;> cases cmpIs x y <;> rfl
@[simp] theorem is_non (x : V2) : cmpIs x (.val .non) = some x.isNon := rfl
@[simp] theorem is_bl (x : V2) : cmpIs x (.val (.bl b)) = some (x.isBl b) := rfl
@[simp] theorem non_n : V2.isNon (.val .non) = true := rfl
@[simp] theorem non_b : V2.isNon (.val (.bl b)) = false := rfl
@[simp] theorem non_i : V2.isNon (.val (.int i)) = false := rfl
@[simp] theorem non_s : V2.isNon (.val (.str s)) = false := rfl
@[simp] theorem non_t : V2.isNon (.val (.tup xs)) = false := rfl
@[simp] theorem non_l : V2.isNon (.val (.lst xs)) = false := rfl
@[simp] theorem non_r : V2.isNon (.ref n) = false := rfl
@[simp] theorem isb_n : V2.isBl b (.val .non) = false := rfl
@[simp] theorem isb_b : V2.isBl b (.val (.bl b')) = (b' == b) := rfl
@[simp] theorem isb_i : V2.isBl b (.val (.int i)) = false := rfl
@[simp] theorem isb_s : V2.isBl b (.val (.str s)) = false := rfl
@[simp] theorem isb_t : V2.isBl b (.val (.tup xs)) = false := rfl
@[simp] theorem isb_l : V2.isBl b (.val (.lst xs)) = false := rfl
@[simp] theorem isb_r : V2.isBl b (.ref n) = false := rfl
@[simp] theorem cmp_in (x y : V2) : cmpR .in_ x y L = icK (cmpIn x y L) L := by
  simp only [cmpR, cmpV, icK] <;> cases cmpIn x y L <;> rfl
@[simp] theorem cmp_inN (x y : V2) : cmpR .notIn x y L = icK ((cmpIn x y L).map (!·)) L := by
  simp only [cmpR, cmpV, icK] <;> cases cmpIn x y L <;> rfl
theorem strIn_one (c : Nat) (t : List Nat) : strIn [c] t = decide (c ∈ t) := PySem.StrLaws.found_one ⟨t.toArray⟩ c
@[simp] theorem in_cs (c : Nat) : cmpIn (.val (.str [c])) (.val (.str t)) L = some (decide (c ∈ t)) := congrArg some (strIn_one c t)
theorem in_ss : cmpIn (.val (.str s)) (.val (.str t)) L = some (strIn s t) := rfl
theorem inD_strs : inD (.str w) (ws.map D.str) = decide (w ∈ ws) := by
  induction ws with
  | nil => rfl
  | cons a r ih =>
    have h : (a == w) = decide (w = a) := by
      by_cases z : w = a
      · simp [z]
      · simp [z, Ne.symm z]
    simp only [List.map_cons, inD, ih, D.eqv, h, List.mem_cons, Bool.decide_or]
theorem okds_strs : ∀ ws : List (List Nat), D.okds 59 (ws.map D.str) = true
  | [] => rfl
  | a :: r => by simp [D.okds, D.okd, okds_strs r]
@[simp] theorem in_sl : cmpIn (.val (.str w)) (.val (.lst (ws.map D.str))) L = some (decide (w ∈ ws)) := by simp [cmpIn, okd, D.okd, okds_strs, inD_strs]
@[simp] theorem in_st : cmpIn (.val (.str w)) (.val (.tup (ws.map D.str))) L = some (decide (w ∈ ws)) := by simp [cmpIn, okd, D.okd, okds_strs, inD_strs]
theorem in_sr (h : L[n]? = some (.lst (ws.map D.str))) : cmpIn (.val (.str w)) (.ref n) L = some (decide (w ∈ ws)) := by simp [cmpIn, okd, D.okd, okds_strs, inD_strs, h]
@[simp] theorem b_add : binV .add own (.val (.int i)) (.val (.int j)) L = .ok (.val (.int (i + j))) L := rfl
@[simp] theorem b_sub : binV .sub own (.val (.int i)) (.val (.int j)) L = .ok (.val (.int (i - j))) L := rfl
theorem mul_c (i j : Int) (h : -(2 ^ 64) < j ∧ j < 2 ^ 64) : mulOk i j = true := by
  unfold mulOk
  simp only [Bool.or_eq_true, Bool.and_eq_true, decide_eq_true_eq]
  exact .inr h
@[simp] theorem b_mul (h : -18446744073709551616 < j ∧ j < 18446744073709551616) : binV .mul own (.val (.int i)) (.val (.int j)) L = .ok (.val (.int (i * j))) L := by
  show (if mulOk i j then R.ok (V2.val (D.int (i * j))) L else R.stuck) = _
  rw [mul_c i j (by omega)]
  rfl
@[simp] theorem b_fdiv (h : 0 < j ∧ j < 1073741824) : binV .fdiv own (.val (.int i)) (.val (.int j)) L = .ok (.val (.int (i / j))) L := by
  show (if 0 < j ∧ j < 1073741824 then R.ok (V2.val (D.int (i / j))) L else R.stuck) = _
  rw [if_pos h]
@[simp] theorem b_mod (h : 0 < j) : binV .mod own (.val (.int i)) (.val (.int j)) L = .ok (.val (.int (i % j))) L := by
  show (if 0 < j then R.ok (V2.val (D.int (i % j))) L else R.stuck) = _
  rw [if_pos h]
@[simp] theorem b_addS : binV .add own (.val (.str s)) (.val (.str t)) L = newS (s ++ t) L := rfl
@[simp] theorem b_addT (ys : List D) : binV .add own (.val (.tup xs)) (.val (.tup ys)) L = newT (xs ++ ys) L := rfl
/-- joined -/
def addL (own : Bool) (x y : Option (List D)) (L : LH) : R V2 := match x, y with
  | some xs, some ys => newL own (xs ++ ys) L
  | _, _ => .stuck
@[simp] theorem addL_s (ys : List D) : addL own (some xs) (some ys) L = newL own (xs ++ ys) L := rfl
@[simp] theorem b_addLL (ys : List D) : binV .add own (.val (.lst xs)) (.val (.lst ys)) L = newL own (xs ++ ys) L := rfl
@[simp] theorem b_addRL (ys : List D) : binV .add own (.ref n) (.val (.lst ys)) L = addL own (lstO L[n]?) (some ys) L := rfl
@[simp] theorem b_addLR (ys : List D) : binV .add own (.val (.lst ys)) (.ref n) L = addL own (some ys) (lstO L[n]?) L := rfl
@[simp] theorem b_addRR : binV .add own (.ref n) (.ref m) L = addL own (lstO L[n]?) (lstO L[m]?) L := rfl
@[simp] theorem b_mulS (h : kOk j = true) : binV .mul own (.val (.str s)) (.val (.int j)) L = newS (rep s j) L := by
  show (if kOk j then newS (rep s j) L else R.stuck) = _
  rw [if_pos h]
/-- many times -/
def mulL (own : Bool) (x : Option (List D)) (k : Int) (L : LH) : R V2 := match x with
  | some xs => if kOk k && decide (xs.length * k.toNat ≤ lim) then newL own (rep xs k) L else .stuck
  | none => .stuck
@[simp] theorem mulL_s (k : Int) (h : (kOk k && decide (xs.length * k.toNat ≤ lim)) = true) : mulL own (some xs) k L = newL own (rep xs k) L := by
  show (if _ then _ else _) = _
  rw [if_pos h]
@[simp] theorem b_mulR : binV .mul own (.ref n) (.val (.int j)) L = mulL own (lstO L[n]?) j L := rfl
@[simp] theorem b_mulL : binV .mul own (.val (.lst xs)) (.val (.int j)) L = mulL own (some xs) j L := rfl
@[simp] theorem newS_ok (h : s.length ≤ 16777216) : newS s L = .ok (.val (.str s)) L := if_pos h
@[simp] theorem newT_ok (h : xs.length ≤ 16777216) : newT xs L = .ok (.val (.tup xs)) L := if_pos h
@[simp] theorem newLt_ok (h : xs.length ≤ 16777216) : newL true xs L = .ok (.ref L.length) (L ++ [.lst xs]) := if_pos h
@[simp] theorem newLf_ok (h : xs.length ≤ 16777216) : newL false xs L = .ok (.val (.lst xs)) L := if_pos h
@[simp] theorem sl_s (lo hi : Option Int) : sliceV own (.val (.str s)) lo hi L = .ok (.val (.str (cutD s lo hi))) L := rfl
@[simp] theorem sl_t (lo hi : Option Int) : sliceV own (.val (.tup xs)) lo hi L = .ok (.val (.tup (cutD xs lo hi))) L := rfl
def sliceO (own : Bool) (x : Option (List D)) (lo hi : Option Int) (L : LH) : R V2 := match x with
  | some xs => newL own (cutD xs lo hi) L
  | none => .stuck
@[simp] theorem sliceO_s (lo hi : Option Int) : sliceO own (some xs) lo hi L = newL own (cutD xs lo hi) L := rfl
@[simp] theorem sl_l (lo hi : Option Int) : sliceV own (.val (.lst xs)) lo hi L = newL own (cutD xs lo hi) L := rfl
@[simp] theorem sl_r (lo hi : Option Int) : sliceV own (.ref n) lo hi L = sliceO own (lstO L[n]?) lo hi L := rfl
theorem cut_map {α β : Type} (f : α → β) (xs : List α) (lo hi : Option Int) : cutD (xs.map f) lo hi = (cutD xs lo hi).map f := by simp [cutD]
theorem cut_nn {α : Type} (xs : List α) : cutD xs none none = xs := by simp [cutD, HT.sIx]
theorem cut_hi {α : Type} (xs : List α) (i : Int) (h : 0 ≤ i) : cutD xs none (some i) = xs.take i.toNat := by
  have h0 : HT.sIx xs.length 0 none = 0 := rfl
  have h1 : HT.sIx xs.length xs.length (some i) = min i.toNat xs.length := by
    simp only [HT.sIx]
    rw [if_neg (by omega)]
  simp only [cutD, h0, h1, List.drop_zero, Nat.sub_zero]
  exact List.take_eq_take_iff.mpr (by omega)
theorem cut_lo {α : Type} (xs : List α) (i : Int) (h : 0 ≤ i) : cutD xs (some i) none = xs.drop i.toNat := by
  have h0 : HT.sIx xs.length xs.length none = xs.length := rfl
  have h1 : HT.sIx xs.length 0 (some i) = min i.toNat xs.length := by
    simp only [HT.sIx]
    rw [if_neg (by omega)]
  simp only [cutD, h0, h1]
  by_cases z : i.toNat ≤ xs.length
  · rw [Nat.min_eq_left z]
    exact List.take_of_length_le (by simp)
  · rw [Nat.min_eq_right (by omega)]
    simp only [Nat.sub_self, List.take_zero]
    exact (List.drop_eq_nil_of_le (by omega)).symm
@[simp] theorem cut_hin {α : Type} (xs : List α) (k : Nat) : cutD xs none (some (k : Int)) = xs.take k := by
  rw [cut_hi _ _ (by omega)]
  rfl
@[simp] theorem cut_lon {α : Type} (xs : List α) (k : Nat) : cutD xs (some (k : Int)) none = xs.drop k := by
  rw [cut_lo _ _ (by omega)]
  rfl
@[simp] theorem cut_hin1 {α : Type} (xs : List α) (k : Nat) : cutD xs none (some ((k : Int) + 1)) = xs.take (k + 1) := cut_hin xs (k + 1)
@[simp] theorem cut_lon1 {α : Type} (xs : List α) (k : Nat) : cutD xs (some ((k : Int) + 1)) none = xs.drop (k + 1) := cut_lon xs (k + 1)
theorem cut_lit {α : Type} (xs : List α) (i : Int) (k : Nat) (h : i = k) : cutD xs none (some i) = xs.take k := by rw [h, cut_hin]
theorem cut_lit' {α : Type} (xs : List α) (i : Int) (k : Nat) (h : i = k) : cutD xs (some i) none = xs.drop k := by rw [h, cut_lon]
@[simp] theorem cut_h1 {α : Type} (xs : List α) : cutD xs none (some 1) = xs.take 1 := cut_hin xs 1
@[simp] theorem cut_h2 {α : Type} (xs : List α) : cutD xs none (some 2) = xs.take 2 := cut_hin xs 2
@[simp] theorem cut_h3 {α : Type} (xs : List α) : cutD xs none (some 3) = xs.take 3 := cut_hin xs 3
@[simp] theorem cut_h4 {α : Type} (xs : List α) : cutD xs none (some 4) = xs.take 4 := cut_hin xs 4
@[simp] theorem cut_l1 {α : Type} (xs : List α) : cutD xs (some 1) none = xs.drop 1 := cut_lon xs 1
@[simp] theorem cut_last {α : Type} (w : List α) : cutD w none (some (-1)) = w.dropLast := by
  have h0 : HT.sIx w.length 0 none = 0 := rfl
  have h1 : HT.sIx w.length w.length (some (-1)) = w.length - 1 := by
    simp only [HT.sIx]
    rw [if_pos (by decide)]
    omega
  simp only [cutD, h0, h1, List.drop_zero, Nat.sub_zero]
  exact (List.dropLast_eq_take ..).symm
def revO (own : Bool) (x : Option (List D)) (L : LH) : R V2 := match x with
  | some xs => newL own xs.reverse L
  | none => .stuck
@[simp] theorem revO_s : revO own (some xs) L = newL own xs.reverse L := rfl
@[simp] theorem rev_r : revV own (.ref n) L = revO own (lstO L[n]?) L := rfl
@[simp] theorem rev_l : revV own (.val (.lst xs)) L = newL own xs.reverse L := rfl
def atK (o : Option D) (L : LH) : R V2 := match o with
  | some d => .ok (.val d) L
  | none => .stuck
@[simp] theorem atK_s : atK (some d) L = .ok (.val d) L := rfl
@[simp] theorem sub_s : subV (.val (.str s)) (.val (.int i)) L = atK ((L2.atI s i).map fun c => .str [c]) L := by
  simp only [subV, dct_s, int_i]
  cases L2.atI s i <;> rfl
@[simp] theorem sub_t : subV (.val (.tup xs)) (.val (.int i)) L = atK (L2.atI xs i) L := by
  simp only [subV, dct_t, int_i, seq_t]
  cases L2.atI xs i <;> rfl
@[simp] theorem sub_l : subV (.val (.lst xs)) (.val (.int i)) L = atK (L2.atI xs i) L := by
  simp only [subV, dct_l, int_i, seq_l]
  cases L2.atI xs i <;> rfl
def subO (o : Option LO) (k : D) (L : LH) : R V2 := match o with
  | some (.lst xs) => (match k with
    | .int i => atK (L2.atI xs i) L
    | _ => .stuck)
  | some (.dct kvs) => if keyOk k then atK (dictGet kvs k) L else .stuck
  | _ => .stuck
@[simp] theorem subO_l : subO (some (.lst xs)) (.int i) L = atK (L2.atI xs i) L := rfl
@[simp] theorem subO_d (h : keyOk d = true) : subO (some (.dct kvs)) d L = atK (dictGet kvs d) L := if_pos h
@[simp] theorem sub_r : subV (.ref n) (.val d) L = subO L[n]? d L := by
  unfold subV subO
  simp only [dct_r, seq_r, dat_v]
  cases h : L[n]? with
  | none => cases d <;> rfl
  | some o => cases o with
    | lst xs => cases d with
      | int i =>
        simp only [dctO_l, int_i, lstO_l]
        cases L2.atI xs i <;> rfl
      | _ => rfl
    | dct kvs =>
      simp only [dctO_d]
      split
      · cases dictGet kvs d <;> rfl
      · rfl
    | _ => cases d <;> rfl
theorem atI_n {α : Type} (xs : List α) (k : Nat) : L2.atI xs (k : Int) = xs[k]? := by
  unfold L2.atI L2.ixN
  rw [if_pos (by omega)]
  by_cases h : k < xs.length
  · rw [if_pos (by omega)]
    simp
  · rw [if_neg (by omega)]
    simp [show xs.length ≤ k by omega]
theorem atI_p {α : Type} (xs : List α) (i : Int) (h : 0 ≤ i) : L2.atI xs i = xs[i.toNat]? := by
  have := atI_n xs i.toNat
  rwa [show ((i.toNat : Nat) : Int) = i by omega] at this
@[simp] theorem atI_0 {α : Type} (xs : List α) : L2.atI xs 0 = xs[0]? := atI_n xs 0
@[simp] theorem atI_1 {α : Type} (xs : List α) : L2.atI xs 1 = xs[1]? := atI_n xs 1
@[simp] theorem atI_2 {α : Type} (xs : List α) : L2.atI xs 2 = xs[2]? := atI_n xs 2
@[simp] theorem atI_3 {α : Type} (xs : List α) : L2.atI xs 3 = xs[3]? := atI_n xs 3
@[simp] theorem atI_4 {α : Type} (xs : List α) : L2.atI xs 4 = xs[4]? := atI_n xs 4
@[simp] theorem atI_5 {α : Type} (xs : List α) : L2.atI xs 5 = xs[5]? := atI_n xs 5
@[simp] theorem atI_k {α : Type} (xs : List α) (k : Nat) : L2.atI xs (k : Int) = xs[k]? := atI_n xs k
@[simp] theorem atI_m1 {α : Type} (xs : List α) : L2.atI xs (-1) = xs.getLast? := by
  unfold L2.atI L2.ixN
  rw [if_neg (by omega)]
  cases xs with
  | nil => simp
  | cons a r =>
    rw [if_pos (by simp; omega)]
    rw [List.getLast?_eq_getElem?]
    simp only [Option.bind_some, List.length_cons]
    congr 1
    omega
@[simp] theorem bi_lenS : biV own .len [.val (.str s)] L = .ok (.val (.int s.length)) L := rfl
@[simp] theorem bi_lenL : biV own .len [.val (.lst xs)] L = .ok (.val (.int xs.length)) L := rfl
@[simp] theorem bi_lenT : biV own .len [.val (.tup xs)] L = .ok (.val (.int xs.length)) L := rfl
def lenO (o : Option (List D)) (L : LH) : R V2 := match o with
  | some xs => .ok (.val (.int xs.length)) L
  | none => .stuck
@[simp] theorem lenO_s : lenO (some xs) L = .ok (.val (.int xs.length)) L := rfl
@[simp] theorem bi_lenR : biV own .len [.ref n] L = lenO (lstO L[n]?) L := rfl
@[simp] theorem bi_int : biV own .int [.val (.int i)] L = .ok (.val (.int i)) L := rfl
def listO (own : Bool) (o : Option (List D)) (L : LH) : R V2 := match o with
  | some xs => newL own xs L
  | none => .stuck
@[simp] theorem listO_s : listO own (some xs) L = newL own xs L := rfl
@[simp] theorem bi_list (x : V2) : biV own .list [x] L = listO own (x.seq? L) L := rfl
def tupO (o : Option (List D)) (L : LH) : R V2 := match o with
  | some xs => newT xs L
  | none => .stuck
@[simp] theorem tupO_s : tupO (some xs) L = newT xs L := rfl
@[simp] theorem bi_tupT : biV own .tuple [.val (.tup xs)] L = .ok (.val (.tup xs)) L := rfl
@[simp] theorem bi_tupL : biV own .tuple [.val (.lst xs)] L = newT xs L := rfl
@[simp] theorem bi_tupR : biV own .tuple [.ref n] L = tupO (lstO L[n]?) L := rfl
def srtK (own : Bool) (o : Option (List D)) (L : LH) : R V2 := match o with
  | some ys => if srtOk ys then newL own (srt ys) L else .stuck
  | none => .stuck
@[simp] theorem bi_srt (x : V2) : biV own .sorted [x] L = srtK own (x.seq? L) L := rfl
/-- texts in order -/
def ssort (ws : List (List Nat)) : List (List Nat) := ws.mergeSort fun a b => decide (¬ b < a)
theorem srtOk_strs : srtOk (ws.map D.str) = true := by
  simp only [srtOk, List.all_eq_true, Bool.and_eq_true, List.mem_map]
  rintro _ ⟨a, _, rfl⟩
  refine ⟨⟨rfl, rfl⟩, ?_⟩
  rintro _ ⟨b, _, rfl⟩
  rfl
theorem srt_strs : srt (ws.map D.str) = (ssort ws).map D.str := by
  unfold srt ssort
  rw [List.map_mergeSort]
  intro a _ b _
  simp only [D.ltb, decide_not]
@[simp] theorem srtK_strs : srtK own (some (ws.map D.str)) L = newL own ((ssort ws).map D.str) L := by
  show (if srtOk (ws.map D.str) then _ else _) = _
  rw [if_pos (srtOk_strs ws), srt_strs]
@[simp] theorem ssort_len : (ssort ws).length = ws.length := List.length_mergeSort _
theorem ssort_perm : (ssort ws).Perm ws := List.mergeSort_perm _ _
@[simp] theorem bi_allL (bs : List Bool) : biV own .all [.val (.lst (bs.map D.bl))] L = .ok (.val (.bl (bs.all id))) L := by
  have : bools (bs.map D.bl) = some bs := by
    induction bs with
    | nil => rfl
    | cons a r ih => simp [bools, ih]
  simp [biV, this]
@[simp] theorem bi_anyL (bs : List Bool) : biV own .any [.val (.lst (bs.map D.bl))] L = .ok (.val (.bl (bs.any id))) L := by
  have : bools (bs.map D.bl) = some bs := by
    induction bs with
    | nil => rfl
    | cons a r ih => simp [bools, ih]
  simp [biV, this]
@[simp] theorem bi_max : biV own .max [.val (.int i), .val (.int j)] L = .ok (.val (.int (if j > i then j else i))) L := rfl
@[simp] theorem bi_min : biV own .min [.val (.int i), .val (.int j)] L = .ok (.val (.int (if j < i then j else i))) L := rfl
@[simp] theorem bi_abs : biV own .abs [.val (.int i)] L = .ok (.val (.int (if i < 0 then -i else i))) L := rfl
@[simp] theorem frzd_v : frzd own n (.val d) L = .ok (.val d) L := by cases own <;> rfl
@[simp] theorem frzd_t (x : V2) : frzd true n x L = .ok x L := rfl
def frzO (n : Nat) (o : Option LO) (L : LH) : R V2 := match o with
  | some (.lst xs) => .ok (.val (.lst xs)) (L.take n)
  | some (.ins C fs) => .ok (.val (.ins C fs)) (L.take n)
  | some (.dct kvs) => .ok (.val (.dct kvs)) (L.take n)
  | _ => .stuck
@[simp] theorem frzO_l : frzO n (some (.lst xs)) L = .ok (.val (.lst xs)) (L.take n) := rfl
@[simp] theorem frzO_d : frzO n (some (.dct kvs)) L = .ok (.val (.dct kvs)) (L.take n) := rfl
theorem frzd_rO (o : Option LO) : (match o with
    | some (.lst xs) => R.ok (V2.val (.lst xs)) (L.take n)
    | some (.ins C fs) => .ok (.val (.ins C fs)) (L.take n)
    | some (.dct kvs) => .ok (.val (.dct kvs)) (L.take n)
    | _ => .stuck) = frzO n o L := by
  rcases o with _ | o
  · rfl
  · cases o <;> rfl
@[simp] theorem frzd_r : frzd false n (.ref n) L = frzO n L[n]? L := by
  rw [← frzd_rO]
  exact if_pos rfl
def retO (n m : Nat) (o : Option LO) (L : LH) : R V2 := if m < n then .ok (.ref m) (L.take n) else match o with
  | some .dead => .stuck
  | some o => .ok (.ref n) (L.take n ++ [o])
  | none => .stuck
@[simp] theorem ret_r : retV n (.ref m) L = retO n m L[m]? L := rfl
@[simp] theorem retO_old (h : m < n) (o : Option LO) : retO n m o L = .ok (.ref m) (L.take n) := if_pos h
@[simp] theorem retO_l (h : n ≤ m) : retO n m (some (.lst xs)) L = .ok (.ref n) (L.take n ++ [.lst xs]) := if_neg (by omega)
@[simp] theorem retO_d (h : n ≤ m) : retO n m (some (.dct kvs)) L = .ok (.ref n) (L.take n ++ [.dct kvs]) := if_neg (by omega)
/-- a number that an index may be -/
def smallI (i : Int) : Bool := decide (-4611686018427387904 ≤ i) && decide (i < 4611686018427387904)
theorem small_of {i : Int} (h : -1000000000 ≤ i ∧ i ≤ 1000000000) : smallI i = true := by
  unfold smallI
  simp only [Bool.and_eq_true, decide_eq_true_eq]
  omega
/-- a number that may be drawn below -/
def smallM (m : Int) : Bool := decide (m < 1073741824)
theorem smallM_of {m : Int} (h : m ≤ 1000000000) : smallM m = true := by
  unfold smallM
  simp only [decide_eq_true_eq]
  omega
@[simp] theorem sI_0 : smallI 0 = true := by decide
@[simp] theorem sM_0 : smallM 0 = true := by decide
@[simp] theorem sI_1 : smallI 1 = true := by decide
@[simp] theorem sM_1 : smallM 1 = true := by decide
@[simp] theorem sI_2 : smallI 2 = true := by decide
@[simp] theorem sM_2 : smallM 2 = true := by decide
@[simp] theorem sI_3 : smallI 3 = true := by decide
@[simp] theorem sM_3 : smallM 3 = true := by decide
@[simp] theorem sI_4 : smallI 4 = true := by decide
@[simp] theorem sM_4 : smallM 4 = true := by decide
@[simp] theorem sI_5 : smallI 5 = true := by decide
@[simp] theorem sM_5 : smallM 5 = true := by decide
@[simp] theorem sI_6 : smallI 6 = true := by decide
@[simp] theorem sM_6 : smallM 6 = true := by decide
@[simp] theorem sI_7 : smallI 7 = true := by decide
@[simp] theorem sM_7 : smallM 7 = true := by decide
@[simp] theorem sI_8 : smallI 8 = true := by decide
@[simp] theorem sM_8 : smallM 8 = true := by decide
@[simp] theorem sI_9 : smallI 9 = true := by decide
@[simp] theorem sM_9 : smallM 9 = true := by decide
@[simp] theorem sI_10 : smallI 10 = true := by decide
@[simp] theorem sM_10 : smallM 10 = true := by decide
@[simp] theorem sI_11 : smallI 11 = true := by decide
@[simp] theorem sM_11 : smallM 11 = true := by decide
@[simp] theorem sI_12 : smallI 12 = true := by decide
@[simp] theorem sM_12 : smallM 12 = true := by decide
@[simp] theorem sI_13 : smallI 13 = true := by decide
@[simp] theorem sM_13 : smallM 13 = true := by decide
@[simp] theorem sI_14 : smallI 14 = true := by decide
@[simp] theorem sM_14 : smallM 14 = true := by decide
@[simp] theorem sI_15 : smallI 15 = true := by decide
@[simp] theorem sM_15 : smallM 15 = true := by decide
@[simp] theorem sI_16 : smallI 16 = true := by decide
@[simp] theorem sM_16 : smallM 16 = true := by decide
@[simp] theorem sI_17 : smallI 17 = true := by decide
@[simp] theorem sM_17 : smallM 17 = true := by decide
@[simp] theorem sI_18 : smallI 18 = true := by decide
@[simp] theorem sM_18 : smallM 18 = true := by decide
@[simp] theorem sI_19 : smallI 19 = true := by decide
@[simp] theorem sM_19 : smallM 19 = true := by decide
@[simp] theorem sI_20 : smallI 20 = true := by decide
@[simp] theorem sM_20 : smallM 20 = true := by decide
@[simp] theorem sI_21 : smallI 21 = true := by decide
@[simp] theorem sM_21 : smallM 21 = true := by decide
@[simp] theorem sI_22 : smallI 22 = true := by decide
@[simp] theorem sM_22 : smallM 22 = true := by decide
@[simp] theorem sI_23 : smallI 23 = true := by decide
@[simp] theorem sM_23 : smallM 23 = true := by decide
@[simp] theorem sI_24 : smallI 24 = true := by decide
@[simp] theorem sM_24 : smallM 24 = true := by decide
@[simp] theorem sI_25 : smallI 25 = true := by decide
@[simp] theorem sM_25 : smallM 25 = true := by decide
@[simp] theorem sI_26 : smallI 26 = true := by decide
@[simp] theorem sM_26 : smallM 26 = true := by decide
@[simp] theorem sI_27 : smallI 27 = true := by decide
@[simp] theorem sM_27 : smallM 27 = true := by decide
@[simp] theorem sI_28 : smallI 28 = true := by decide
@[simp] theorem sM_28 : smallM 28 = true := by decide
@[simp] theorem sI_29 : smallI 29 = true := by decide
@[simp] theorem sM_29 : smallM 29 = true := by decide
@[simp] theorem sI_30 : smallI 30 = true := by decide
@[simp] theorem sM_30 : smallM 30 = true := by decide
@[simp] theorem sI_31 : smallI 31 = true := by decide
@[simp] theorem sM_31 : smallM 31 = true := by decide
@[simp] theorem sI_32 : smallI 32 = true := by decide
@[simp] theorem sM_32 : smallM 32 = true := by decide
@[simp] theorem sI_33 : smallI 33 = true := by decide
@[simp] theorem sM_33 : smallM 33 = true := by decide
@[simp] theorem sI_34 : smallI 34 = true := by decide
@[simp] theorem sM_34 : smallM 34 = true := by decide
@[simp] theorem sI_35 : smallI 35 = true := by decide
@[simp] theorem sM_35 : smallM 35 = true := by decide
@[simp] theorem sI_36 : smallI 36 = true := by decide
@[simp] theorem sM_36 : smallM 36 = true := by decide
@[simp] theorem sI_37 : smallI 37 = true := by decide
@[simp] theorem sM_37 : smallM 37 = true := by decide
@[simp] theorem sI_38 : smallI 38 = true := by decide
@[simp] theorem sM_38 : smallM 38 = true := by decide
@[simp] theorem sI_39 : smallI 39 = true := by decide
@[simp] theorem sM_39 : smallM 39 = true := by decide
@[simp] theorem sI_40 : smallI 40 = true := by decide
@[simp] theorem sM_40 : smallM 40 = true := by decide
@[simp] theorem sI_41 : smallI 41 = true := by decide
@[simp] theorem sM_41 : smallM 41 = true := by decide
@[simp] theorem sI_42 : smallI 42 = true := by decide
@[simp] theorem sM_42 : smallM 42 = true := by decide
@[simp] theorem sI_43 : smallI 43 = true := by decide
@[simp] theorem sM_43 : smallM 43 = true := by decide
@[simp] theorem sI_44 : smallI 44 = true := by decide
@[simp] theorem sM_44 : smallM 44 = true := by decide
@[simp] theorem sI_45 : smallI 45 = true := by decide
@[simp] theorem sM_45 : smallM 45 = true := by decide
@[simp] theorem sI_46 : smallI 46 = true := by decide
@[simp] theorem sM_46 : smallM 46 = true := by decide
@[simp] theorem sI_47 : smallI 47 = true := by decide
@[simp] theorem sM_47 : smallM 47 = true := by decide
@[simp] theorem sI_48 : smallI 48 = true := by decide
@[simp] theorem sM_48 : smallM 48 = true := by decide
@[simp] theorem sI_49 : smallI 49 = true := by decide
@[simp] theorem sM_49 : smallM 49 = true := by decide
@[simp] theorem sI_50 : smallI 50 = true := by decide
@[simp] theorem sM_50 : smallM 50 = true := by decide
@[simp] theorem sI_51 : smallI 51 = true := by decide
@[simp] theorem sM_51 : smallM 51 = true := by decide
@[simp] theorem sI_52 : smallI 52 = true := by decide
@[simp] theorem sM_52 : smallM 52 = true := by decide
@[simp] theorem sI_53 : smallI 53 = true := by decide
@[simp] theorem sM_53 : smallM 53 = true := by decide
@[simp] theorem sI_54 : smallI 54 = true := by decide
@[simp] theorem sM_54 : smallM 54 = true := by decide
@[simp] theorem sI_55 : smallI 55 = true := by decide
@[simp] theorem sM_55 : smallM 55 = true := by decide
@[simp] theorem sI_56 : smallI 56 = true := by decide
@[simp] theorem sM_56 : smallM 56 = true := by decide
@[simp] theorem sI_57 : smallI 57 = true := by decide
@[simp] theorem sM_57 : smallM 57 = true := by decide
@[simp] theorem sI_58 : smallI 58 = true := by decide
@[simp] theorem sM_58 : smallM 58 = true := by decide
@[simp] theorem sI_59 : smallI 59 = true := by decide
@[simp] theorem sM_59 : smallM 59 = true := by decide
@[simp] theorem sI_60 : smallI 60 = true := by decide
@[simp] theorem sM_60 : smallM 60 = true := by decide
@[simp] theorem sI_61 : smallI 61 = true := by decide
@[simp] theorem sM_61 : smallM 61 = true := by decide
@[simp] theorem sI_62 : smallI 62 = true := by decide
@[simp] theorem sM_62 : smallM 62 = true := by decide
@[simp] theorem sI_63 : smallI 63 = true := by decide
@[simp] theorem sM_63 : smallM 63 = true := by decide
@[simp] theorem sI_64 : smallI 64 = true := by decide
@[simp] theorem sM_64 : smallM 64 = true := by decide
@[simp] theorem sI_65 : smallI 65 = true := by decide
@[simp] theorem sM_65 : smallM 65 = true := by decide
@[simp] theorem sI_66 : smallI 66 = true := by decide
@[simp] theorem sM_66 : smallM 66 = true := by decide
@[simp] theorem sI_67 : smallI 67 = true := by decide
@[simp] theorem sM_67 : smallM 67 = true := by decide
@[simp] theorem sI_68 : smallI 68 = true := by decide
@[simp] theorem sM_68 : smallM 68 = true := by decide
@[simp] theorem sI_69 : smallI 69 = true := by decide
@[simp] theorem sM_69 : smallM 69 = true := by decide
@[simp] theorem sI_70 : smallI 70 = true := by decide
@[simp] theorem sM_70 : smallM 70 = true := by decide
@[simp] theorem sI_71 : smallI 71 = true := by decide
@[simp] theorem sM_71 : smallM 71 = true := by decide
@[simp] theorem sI_72 : smallI 72 = true := by decide
@[simp] theorem sM_72 : smallM 72 = true := by decide
@[simp] theorem sI_73 : smallI 73 = true := by decide
@[simp] theorem sM_73 : smallM 73 = true := by decide
@[simp] theorem sI_74 : smallI 74 = true := by decide
@[simp] theorem sM_74 : smallM 74 = true := by decide
@[simp] theorem sI_75 : smallI 75 = true := by decide
@[simp] theorem sM_75 : smallM 75 = true := by decide
@[simp] theorem sI_76 : smallI 76 = true := by decide
@[simp] theorem sM_76 : smallM 76 = true := by decide
@[simp] theorem sI_77 : smallI 77 = true := by decide
@[simp] theorem sM_77 : smallM 77 = true := by decide
@[simp] theorem sI_78 : smallI 78 = true := by decide
@[simp] theorem sM_78 : smallM 78 = true := by decide
@[simp] theorem sI_79 : smallI 79 = true := by decide
@[simp] theorem sM_79 : smallM 79 = true := by decide
@[simp] theorem sI_80 : smallI 80 = true := by decide
@[simp] theorem sM_80 : smallM 80 = true := by decide
@[simp] theorem sI_81 : smallI 81 = true := by decide
@[simp] theorem sM_81 : smallM 81 = true := by decide
@[simp] theorem sI_82 : smallI 82 = true := by decide
@[simp] theorem sM_82 : smallM 82 = true := by decide
@[simp] theorem sI_83 : smallI 83 = true := by decide
@[simp] theorem sM_83 : smallM 83 = true := by decide
@[simp] theorem sI_84 : smallI 84 = true := by decide
@[simp] theorem sM_84 : smallM 84 = true := by decide
@[simp] theorem sI_85 : smallI 85 = true := by decide
@[simp] theorem sM_85 : smallM 85 = true := by decide
@[simp] theorem sI_86 : smallI 86 = true := by decide
@[simp] theorem sM_86 : smallM 86 = true := by decide
@[simp] theorem sI_87 : smallI 87 = true := by decide
@[simp] theorem sM_87 : smallM 87 = true := by decide
@[simp] theorem sI_88 : smallI 88 = true := by decide
@[simp] theorem sM_88 : smallM 88 = true := by decide
@[simp] theorem sI_89 : smallI 89 = true := by decide
@[simp] theorem sM_89 : smallM 89 = true := by decide
@[simp] theorem sI_90 : smallI 90 = true := by decide
@[simp] theorem sM_90 : smallM 90 = true := by decide
@[simp] theorem sI_91 : smallI 91 = true := by decide
@[simp] theorem sM_91 : smallM 91 = true := by decide
@[simp] theorem sI_92 : smallI 92 = true := by decide
@[simp] theorem sM_92 : smallM 92 = true := by decide
@[simp] theorem sI_93 : smallI 93 = true := by decide
@[simp] theorem sM_93 : smallM 93 = true := by decide
@[simp] theorem sI_94 : smallI 94 = true := by decide
@[simp] theorem sM_94 : smallM 94 = true := by decide
@[simp] theorem sI_95 : smallI 95 = true := by decide
@[simp] theorem sM_95 : smallM 95 = true := by decide
@[simp] theorem sI_96 : smallI 96 = true := by decide
@[simp] theorem sM_96 : smallM 96 = true := by decide
@[simp] theorem sI_97 : smallI 97 = true := by decide
@[simp] theorem sM_97 : smallM 97 = true := by decide
@[simp] theorem sI_98 : smallI 98 = true := by decide
@[simp] theorem sM_98 : smallM 98 = true := by decide
@[simp] theorem sI_99 : smallI 99 = true := by decide
@[simp] theorem sM_99 : smallM 99 = true := by decide
@[simp] theorem sI_100 : smallI 100 = true := by decide
@[simp] theorem sM_100 : smallM 100 = true := by decide
@[simp] theorem sI_120 : smallI 120 = true := by decide
@[simp] theorem sM_120 : smallM 120 = true := by decide
@[simp] theorem sI_128 : smallI 128 = true := by decide
@[simp] theorem sM_128 : smallM 128 = true := by decide
@[simp] theorem sI_200 : smallI 200 = true := by decide
@[simp] theorem sM_200 : smallM 200 = true := by decide
@[simp] theorem sI_256 : smallI 256 = true := by decide
@[simp] theorem sM_256 : smallM 256 = true := by decide
@[simp] theorem sI_500 : smallI 500 = true := by decide
@[simp] theorem sM_500 : smallM 500 = true := by decide
@[simp] theorem sI_512 : smallI 512 = true := by decide
@[simp] theorem sM_512 : smallM 512 = true := by decide
@[simp] theorem sI_600 : smallI 600 = true := by decide
@[simp] theorem sM_600 : smallM 600 = true := by decide
@[simp] theorem sI_640 : smallI 640 = true := by decide
@[simp] theorem sM_640 : smallM 640 = true := by decide
@[simp] theorem sI_690 : smallI 690 = true := by decide
@[simp] theorem sM_690 : smallM 690 = true := by decide
@[simp] theorem sI_696 : smallI 696 = true := by decide
@[simp] theorem sM_696 : smallM 696 = true := by decide
@[simp] theorem sI_697 : smallI 697 = true := by decide
@[simp] theorem sM_697 : smallM 697 = true := by decide
@[simp] theorem sI_698 : smallI 698 = true := by decide
@[simp] theorem sM_698 : smallM 698 = true := by decide
@[simp] theorem sI_699 : smallI 699 = true := by decide
@[simp] theorem sM_699 : smallM 699 = true := by decide
@[simp] theorem sI_700 : smallI 700 = true := by decide
@[simp] theorem sM_700 : smallM 700 = true := by decide
@[simp] theorem sI_720 : smallI 720 = true := by decide
@[simp] theorem sM_720 : smallM 720 = true := by decide
@[simp] theorem sI_1000 : smallI 1000 = true := by decide
@[simp] theorem sM_1000 : smallM 1000 = true := by decide
@[simp] theorem sI_1024 : smallI 1024 = true := by decide
@[simp] theorem sM_1024 : smallM 1024 = true := by decide
@[simp] theorem sI_2048 : smallI 2048 = true := by decide
@[simp] theorem sM_2048 : smallM 2048 = true := by decide
@[simp] theorem sI_4096 : smallI 4096 = true := by decide
@[simp] theorem sM_4096 : smallM 4096 = true := by decide
def putR (o : Option (List D × D)) (n : Nat) (L : LH) : R V2 := match o with
  | some (ys, d) => .ok (.val d) (L.set n (.lst ys))
  | none => .stuck
@[simp] theorem putR_s : putR (some (xs, d)) n L = .ok (.val d) (L.set n (.lst xs)) := (Eq.refl _).trans rfl
def lstK (o : Option (List D)) (n : Nat) (L : LH) (f : List D → Option (List D × D)) : R V2 := match o with
  | some xs => putR (f xs) n L
  | none => .stuck
@[simp] theorem lstK_s (f : List D → Option (List D × D)) : lstK (some xs) n L f = putR (f xs) n L := (Eq.refl _).trans rfl
@[simp] theorem lstPut_r (f : List D → Option (List D × D)) : lstPut (.ref n) L f = lstK (lstO L[n]?) n L f := by
  unfold lstPut lstK
  simp only
  cases h : L[n]? with
  | none => rfl
  | some o => cases o with
    | lst xs => simp only [lstO_l, putR] <;> rcases f xs with _ | ⟨_, _⟩ <;> rfl
    | _ => rfl
def appF (y : D) (ys : List D) : Option (List D × D) := if ys.length < lim then some (ys ++ [y], .non) else none
@[simp] theorem appF_ok (h : xs.length < 16777216) : appF d xs = some (xs ++ [d], .non) := if_pos h
@[simp] theorem m_app : methV own .lAppend (.ref n) [.val d] L = lstK (lstO L[n]?) n L (appF d) := by
  have e : methV own .lAppend (.ref n) [.val d] L = lstPut (.ref n) L (appF d) := rfl
  rw [e, lstPut_r]
def insF (k : Nat) (y : D) (ys : List D) : Option (List D × D) := if ys.length < lim then some (ys.take k ++ [y] ++ ys.drop k, .non) else none
@[simp] theorem insF_ok (k : Nat) (h : xs.length < 16777216) : insF k d xs = some (xs.take k ++ [d] ++ xs.drop k, .non) := if_pos h
theorem m_ins (h : 0 ≤ i ∧ i < 9223372036854775808) : methV own .lInsert (.ref n) [.val (.int i), .val d] L = lstK (lstO L[n]?) n L (insF i.toNat d) := by
  show (if 0 ≤ i ∧ i < 2 ^ 63 then lstPut _ _ _ else _) = _
  rw [if_pos (by omega), lstPut_r]
  rfl
@[simp] theorem m_insN (h : smallI (m : Nat) = true) : methV own .lInsert (.ref n) [.val (.int (m : Nat)), .val d] L = lstK (lstO L[n]?) n L (insF m d) := by
  have h2 := m_ins L (m : Nat) d n own (by
    unfold smallI at h
    simp only [Bool.and_eq_true, decide_eq_true_eq] at h
    omega)
  rw [h2]
  rfl
@[simp] theorem m_pop : methV own .lPop (.ref n) [] L = lstK (lstO L[n]?) n L (fun ys => (ys[ys.length - 1]?).map fun y => (ys.dropLast, y)) := by
  have e : methV own .lPop (.ref n) [] L = lstPut (.ref n) L (fun ys => (ys[ys.length - 1]?).map fun y => (ys.dropLast, y)) := rfl
  rw [e, lstPut_r]
def popF (i : Int) (ys : List D) : Option (List D × D) := (L2.atI ys i).map fun y => (ys.eraseIdx ((L2.ixN ys.length i).getD 0), y)
@[simp] theorem m_popAt (h : smallI i = true) : methV own .lPopAt (.ref n) [.val (.int i)] L = lstK (lstO L[n]?) n L (popF i) := by
  show (if -(2 ^ 63) ≤ i ∧ i < 2 ^ 63 then lstPut _ _ _ else _) = _
  rw [if_pos (by
    unfold smallI at h
    simp only [Bool.and_eq_true, decide_eq_true_eq] at h
    omega), lstPut_r]
  congr 1
  funext ys
  unfold popF L2.atI
  cases h : L2.ixN ys.length i <;> rfl
theorem popF_n (k : Nat) (h : xs[k]? = some d) : popF (k : Int) xs = some (xs.eraseIdx k, d) := by
  have hk : k < xs.length := (List.getElem?_eq_some_iff.mp h).1
  have h2 : L2.ixN xs.length (k : Int) = some k := by
    unfold L2.ixN
    rw [if_pos (by omega), if_pos (by omega)]
    simp
  simp [popF, h, h2]
@[simp] theorem m_rev : methV own .lReverse (.ref n) [] L = lstK (lstO L[n]?) n L (fun ys => some (ys.reverse, .non)) := by
  have e : methV own .lReverse (.ref n) [] L = lstPut (.ref n) L (fun ys => some (ys.reverse, .non)) := rfl
  rw [e, lstPut_r]
@[simp] theorem m_find : methV own .sFind (.val (.str s)) [.val (.str t)] L = .ok (.val (.int (Txt.find ⟨s.toArray⟩ ⟨t.toArray⟩))) L := rfl
@[simp] theorem m_cnt (k : Nat) : methV own .sCount (.val (.str s)) [.val (.str [k])] L = .ok (.val (.int (s.count k))) L := rfl
@[simp] theorem m_up (k : Nat) (h : k < 128) : methV own .sUpper (.val (.str [k])) [] L = .ok (.val (.str (upper [k]))) L := by simp [methV, h]
@[simp] theorem ty_app (x : V2) : methTy .lAppend x L = (x.lst? L).isSome := rfl
@[simp] theorem ty_ins (x : V2) : methTy .lInsert x L = (x.lst? L).isSome := rfl
@[simp] theorem ty_pop (x : V2) : methTy .lPop x L = (x.lst? L).isSome := rfl
@[simp] theorem ty_popAt (x : V2) : methTy .lPopAt x L = (x.lst? L).isSome := rfl
@[simp] theorem ty_rev (x : V2) : methTy .lReverse x L = (x.lst? L).isSome := rfl
@[simp] theorem ty_up : methTy .sUpper (.val (.str s)) L = true := rfl
@[simp] theorem ty_cnt : methTy .sCount (.val (.str s)) L = true := rfl
@[simp] theorem ty_find : methTy .sFind (.val (.str s)) L = true := rfl
/-- whole numbers from i on -/
def iup (i m : Nat) : List D := (List.range' i m).map fun k => D.int (k : Nat)
@[simp] theorem iup_0 (i : Nat) : iup i 0 = [] := rfl
theorem iup_s (i k : Nat) : iup i (k + 1) = .int i :: iup (i + 1) k := by simp [iup, List.range'_succ]
@[simp] theorem iup_len (i k : Nat) : (iup i k).length = k := by simp [iup]
theorem range_iup (a : Nat) (c : Int) : range2 a c = iup a (c - a).toNat := by
  unfold range2 iup
  rw [List.range'_eq_map_range, List.map_map]
  rfl
theorem it_rangeA : itemsV .range [.val (.int i)] L = if decide (-(2 ^ 62) ≤ i) && decide (i < 2 ^ 62) then some (range2 0 i) else none := rfl
theorem it_rangeB : itemsV .range [.val (.int i), .val (.int j)] L = if decide (-(2 ^ 62) ≤ i) && decide (i < 2 ^ 62) && decide (-(2 ^ 62) ≤ j) && decide (j < 2 ^ 62) then some (range2 i j) else none := rfl
@[simp] theorem it_range (h : smallI i = true) : itemsV .range [.val (.int i)] L = some (iup 0 i.toNat) := by
  rw [it_rangeA, if_pos (by
    unfold smallI at h
    simp only [Bool.and_eq_true, decide_eq_true_eq] at h ⊢
    omega)]
  have := range_iup 0 i
  rw [Int.natCast_zero, Int.sub_zero] at this
  rw [this]
theorem it_range2 (a : Nat) (ha : smallI (a : Nat) = true) (h : smallI j = true) : itemsV .range [.val (.int (a : Nat)), .val (.int j)] L = some (iup a (j - a).toNat) := by
  have h2 : (smallI (a : Nat) && smallI j) = true := by simp [ha, h]
  rw [it_rangeB, if_pos (by
    unfold smallI at h2
    simp only [Bool.and_eq_true, decide_eq_true_eq] at h2 ⊢
    omega), range_iup]
@[simp] theorem it_range2l (h : smallI j = true) : itemsV .range [.val (.int 1), .val (.int j)] L = some (iup 1 (j - 1).toNat) := it_range2 L j 1 rfl h
@[simp] theorem it_str : itemsV .over [.val (.str s)] L = some (s.map fun c => .str [c]) := rfl
@[simp] theorem it_l : itemsV .over [.val (.lst xs)] L = some xs := rfl
@[simp] theorem it_t : itemsV .over [.val (.tup xs)] L = some xs := rfl
@[simp] theorem it_r : itemsV .over [.ref n] L = lstO L[n]? := rfl
@[simp] theorem src_v : srcOf .over [.val d] = none := rfl
@[simp] theorem src_r : srcOf .over [.ref n] = some n := rfl
@[simp] theorem src_g (x : V2) : srcOf .range [x] = none := by cases x <;> rfl
@[simp] theorem src_g2 (x y : V2) : srcOf .range [x, y] = none := rfl
end
/-- the name of a loop behind it -/
def lastV {α : Type} (f : α → D) : List α → Option V2 → Option V2
  | [], c => c
  | x :: r, c => lastV f r (some (.val (f x)))
@[simp] theorem lastV_0 {α : Type} (f : α → D) (c : Option V2) : lastV f [] c = c := rfl
@[simp] theorem lastV_1 {α : Type} (f : α → D) (x : α) (r : List α) (c : Option V2) : lastV f (x :: r) c = lastV f r (some (.val (f x))) := rfl
section
variable (body : SL → LH → RS) (i n : Nat) (ds : List D) (x : D) (r : List D) (sl : SL) (L : LH)
@[simp] theorem for_0 : forGo body (.nm i) none ds [] sl L = .nx sl L := by
  simp only [forGo]
  exact if_pos trivial
@[simp] theorem for_1 : forGo body (.nm i) none ds (x :: r) sl L = (body (sl.set i (some (.val x))) L).turn fun s' L' => forGo body (.nm i) none ds r s' L' := by
  simp only [forGo]
  rw [if_pos (show srcOk none ds L from trivial)]
  rfl
theorem for_0r (h : L[n]? = some (.lst ds)) : forGo body (.nm i) (some n) ds [] sl L = .nx sl L := by
  simp only [forGo]
  exact if_pos h
theorem for_1r (h : L[n]? = some (.lst ds)) : forGo body (.nm i) (some n) ds (x :: r) sl L = (body (sl.set i (some (.val x))) L).turn fun s' L' => forGo body (.nm i) (some n) ds r s' L' := by
  simp only [forGo]
  rw [if_pos (show srcOk (some n) ds L from h)]
  rfl
end
/-- a comprehension that changes nothing -/
theorem comp_fm {α : Type} {F : SL → LH → R (Option D)} {i : Nat} {sl : SL} {src : Option Nat} (ws : List α) (f : α → D) {L : LH} (g : α → Option D) (hs : srcOk src (ws.map f) L) (hl : ws.length ≤ 16777216)
    (hf : ∀ w ∈ ws, F (sl.set i (some (.val (f w)))) L = .ok (g w) L) (own : Bool) : compK F own (.nm i) sl src (some (ws.map f)) L = newL own (ws.filterMap g) L := by
  have main : ∀ (r : List α) (acc : List D), (∀ w ∈ r, F (sl.set i (some (.val (f w)))) L = .ok (g w) L) → acc.length + r.length ≤ 16777216 → compGo F (.nm i) sl src (ws.map f) L.length (r.map f) acc L = .ok (acc ++ r.filterMap g) L := by
    intro r
    induction r with
    | nil =>
      intro acc _ _
      simp only [List.map_nil, compGo]
      rw [if_pos hs]
      simp
    | cons w r ih =>
      intro acc h1 h2
      simp only [List.map_cons, compGo]
      rw [if_pos hs]
      simp only [store]
      rw [h1 w (by simp)]
      simp only [List.length_cons] at h2
      cases hg : g w with
      | none =>
        simp only [if_true]
        rw [ih acc (fun w hw => h1 w (by simp [hw])) (by omega)]
        simp [hg]
      | some y =>
        have : (decide True && decide (acc.length < lim)) = true := by
          simp only [decide_true, Bool.true_and, decide_eq_true_eq]
          show acc.length < 16777216
          omega
        simp only
        rw [if_pos this]
        rw [ih (acc ++ [y]) (fun w hw => h1 w (by simp [hw])) (by simp; omega)]
        simp [hg]
  rw [compK_some, main ws [] hf (by simp; omega)]
  rfl
/-- one turn of a comprehension -/
def ynK (o : Option Bool) (F : LH → R (Option D)) (L : LH) : R (Option D) := match o with
  | some true => F L
  | some false => .ok none L
  | none => .stuck
@[simp] theorem ynK_t (F : LH → R (Option D)) (L : LH) : ynK (some true) F L = F L := (Eq.refl _).trans rfl
@[simp] theorem ynK_f (F : LH → R (Option D)) (L : LH) : ynK (some false) F L = .ok none L := rfl
def datR (x : V2) (L : LH) : R (Option D) := match x with
  | .val d => .ok (some d) L
  | _ => .stuck
@[simp] theorem datR_v (d : D) (L : LH) : datR (.val d) L = .ok (some d) L := rfl
section
variable (P : Prog) (hot : Bool) (k : Nat) (sl : SL) (L : LH)
@[simp] theorem turn_0 (elt : IE) : turnF (cl P hot k) [] elt sl L = (ev (cl P hot k) elt sl L).bind fun x L3 => datR x L3 := by
  simp only [turnF, evs, R.bind_ok, testOf]
  cases ev (cl P hot k) elt sl L with
  | stuck => rfl
  | exc _ _ _ => rfl
  | ok x L1 => cases x <;> rfl
@[simp] theorem turn_1 (t elt : IE) : turnF (cl P hot k) [t] elt sl L = (ev (cl P hot k) t sl L).bind fun x L1 => ynK (x.truth L1) (fun L2 => (ev (cl P hot k) elt sl L2).bind fun x L3 => datR x L3) L1 := by
  simp only [turnF, evs]
  cases ev (cl P hot k) t sl L with
  | stuck => rfl
  | exc _ _ _ => rfl
  | ok x L1 =>
    simp only [R.bind_ok, testOf]
    cases h : x.truth L1 with
    | none => simp [ynK]
    | some b => cases b with
      | false => simp [ynK]
      | true =>
        simp only [ynK]
        cases ev (cl P hot k) elt sl L1 with
        | stuck => rfl
        | exc _ _ _ => rfl
        | ok x L1 => cases x <;> rfl
end
def putO (o : Option LO) (n : Nat) (k y : D) (L : LH) : Option LH := match o with
  | some (.lst xs) => (match k with
    | .int i => (L2.ixN xs.length i).map fun j => L.set n (.lst (xs.set j y))
    | _ => none)
  | some (.dct kvs) => if keyOk k && decide (kvs.length < lim) then some (L.set n (.dct (dictPut kvs k y))) else none
  | _ => none
@[simp] theorem putO_l (xs : List D) (n : Nat) (i : Int) (y : D) (L : LH) : putO (some (.lst xs)) n (.int i) y L = (L2.ixN xs.length i).map fun j => L.set n (.lst (xs.set j y)) := rfl
@[simp] theorem putO_d (kvs : List (D × D)) (n : Nat) (k y : D) (L : LH) (h : keyOk k = true) (h2 : kvs.length < 16777216) : putO (some (.dct kvs)) n k y L = some (L.set n (.dct (dictPut kvs k y))) := by
  show (if _ then _ else _) = _
  rw [if_pos (by simp [h]; exact h2)]
@[simp] theorem putV_r (n : Nat) (k : D) (y : D) (L : LH) : putV (.ref n) (.val k) y L = putO L[n]? n k y L := by
  unfold putV putO
  simp only
  cases h : L[n]? with
  | none => rfl
  | some o => cases o with
    | lst xs => cases k <;> rfl
    | dct kvs => rfl
    | _ => rfl
@[simp] theorem key_s (s : List Nat) : keyOk (.str s) = true := by simp [keyOk]
@[simp] theorem key_i (i : Int) : keyOk (.int i) = true := by simp [keyOk]
end PI

set_option maxRecDepth 100000
set_option maxHeartbeats 1000000
namespace PI
open PySem
section
variable (body : SL → LH → RS) (i : Nat) (src : Option Nat) (ds : List D) (x : D) (r : List D) (sl : SL) (L : LH)
theorem for_0s (h : srcOk src ds L) : forGo body (.nm i) src ds [] sl L = .nx sl L := by
  simp only [forGo]
  exact if_pos h
theorem for_1s (h : srcOk src ds L) : forGo body (.nm i) src ds (x :: r) sl L = (body (sl.set i (some (.val x))) L).turn fun s' L' => forGo body (.nm i) src ds r s' L' := by
  simp only [forGo]
  rw [if_pos h]
  rfl
end
/-- x is a list or tuple of these items -/
inductive Row (L : LH) (ds : List D) : V2 → Prop
  | lst : Row L ds (.val (.lst ds))
  | tup : Row L ds (.val (.tup ds))
  | ref (n : Nat) (h : L[n]? = some (.lst ds)) : Row L ds (.ref n)
namespace Row
variable {L : LH} {ds : List D} {x : V2} (h : Row L ds x)
include h
theorem seq : x.seq? L = some ds := by
  cases h with
  | lst => rfl
  | tup => rfl
  | ref n h => simp [h]
theorem len (own : Bool) : biV own .len [x] L = .ok (.val (.int ds.length)) L := by
  cases h with
  | lst => rfl
  | tup => rfl
  | ref n h => simp [h]
theorem items : itemsV .over [x] L = some ds := by
  cases h with
  | lst => rfl
  | tup => rfl
  | ref n h => simp [h]
theorem src : srcOk (srcOf .over [x]) ds L := by
  cases h with
  | lst => trivial
  | tup => trivial
  | ref n h => exact h
theorem at_ (i : Int) : subV x (.val (.int i)) L = atK (L2.atI ds i) L := by
  cases h with
  | lst => simp
  | tup => simp
  | ref n h => simp [h]
theorem ins {w : List Nat} {ws : List (List Nat)} (e : ds = ws.map D.str) : cmpIn (.val (.str w)) x L = some (decide (w ∈ ws)) := by
  subst e
  cases h with
  | lst => simp
  | tup => simp
  | ref n h => exact in_sr L n w ws h
theorem list (own : Bool) : biV own .list [x] L = newL own ds L := by simp [h.seq]
theorem srt (own : Bool) : biV own .sorted [x] L = srtK own (some ds) L := by simp [h.seq]
theorem frz (own : Bool) (n : Nat) : frzd own n x L = .ok x L ∨ ∃ m, x = .ref m := by
  cases h with
  | lst => exact .inl (by simp)
  | tup => exact .inl (by simp)
  | ref n h => exact .inr ⟨_, rfl⟩
end Row
theorem Row.app {L : LH} {ds : List D} {x : V2} (h : Row L ds x) (M : LH) : Row (L ++ M) ds x := by
  cases h with
  | lst => exact .lst
  | tup => exact .tup
  | ref n h => exact .ref n (by rw [List.getElem?_append_left (List.getElem?_eq_some_iff.mp h).1]; exact h)
def seenD (ws : List (List Nat)) : List (D × D) := ws.map fun w => (.str w, .bl true)
theorem seen_has (w : List Nat) : ∀ ws : List (List Nat), dictHas (seenD ws) (.str w) = decide (w ∈ ws)
  | [] => rfl
  | a :: r => by
    have h : (a == w) = decide (w = a) := by
      by_cases z : w = a
      · simp [z]
      · simp [z, Ne.symm z]
    have ih := seen_has w r
    simp only [seenD] at ih
    simp [seenD, dictHas, ih, D.eqv, h]
theorem seen_put (w : List Nat) (ws : List (List Nat)) (h : w ∉ ws) : dictPut (seenD ws) (.str w) (.bl true) = seenD (ws ++ [w]) := by
  unfold dictPut
  rw [seen_has, if_neg (by simpa using h)]
  simp [seenD]
@[simp] theorem seen_len (ws : List (List Nat)) : (seenD ws).length = ws.length := by simp [seenD]
theorem in_seen (L : LH) (n : Nat) (w : List Nat) (ws : List (List Nat)) (h : L[n]? = some (.dct (seenD ws))) : cmpIn (.val (.str w)) (.ref n) L = some (decide (w ∈ ws)) := by
  simp [cmpIn, h, seen_has, lstO]
/-- a def in two parts -/
theorem execs_app (c : Cl) (b : List IS) : ∀ (a : List IS) (sl : SL) (L : LH), execs c (a ++ b) sl L = seqS' (execs c a sl L) c b
  | [], sl, L => by simp only [List.nil_append, execs, seqS', RS.thn_nx]
  | s :: a, sl, L => by
    simp only [List.cons_append, execs, seqS']
    cases exec c s sl L with
    | nx sl' L' =>
      simp only [RS.thn_nx]
      exact execs_app c b a sl' L'
    | _ => rfl
theorem eqvs_strs : ∀ ws : List (List Nat), D.eqvs (ws.map D.str) (ws.map D.str) = true
  | [] => rfl
  | a :: r => by simp [D.eqvs, D.eqv, eqvs_strs r]
theorem cmp_neL (x y : V2) (ws : List (List Nat)) (L : LH) (hx : x.view L = some (.lst (ws.map D.str))) (hy : y.view L = some (.lst (ws.map D.str))) : cmpR .ne x y L = .ok (.val (.bl false)) L := by
  have h : okd (.lst (ws.map D.str)) = true := okds_strs ws
  simp [cmpR, cmpV, cmpEq, hx, hy, h, D.eqv, eqvs_strs]
theorem ssort_sorted (ws : List (List Nat)) : (ssort ws).Pairwise fun a b => ¬ b < a := by
  have := List.pairwise_mergeSort (le := fun a b : List Nat => decide (¬ b < a)) (fun a b c h1 h2 => by
    simp only [decide_eq_true_eq] at h1 h2 ⊢
    exact List.le_trans (l₁ := a) (l₂ := b) (l₃ := c) h1 h2) (fun a b => by
    simp only [Bool.or_eq_true, decide_eq_true_eq]
    exact List.le_total a b) ws
  exact this.imp (fun h => by simpa using h)
theorem ssort_lt (ws : List (List Nat)) (h : ws.Nodup) : (ssort ws).Pairwise (· < ·) := by
  have h1 := ssort_sorted ws
  have h2 : (ssort ws).Nodup := (ssort_perm ws).nodup_iff.mpr h
  refine (h1.and h2).imp fun {a b} ⟨a1, a2⟩ => ?_
  rcases Classical.em (a < b) with z | z
  · exact z
  · exact absurd (List.le_antisymm a1 z) a2
end PI

set_option maxHeartbeats 0
namespace Lw
open PI PySem
theorem run_is_place (hot : Bool) (k : Nat) (x0 : V2) (L : LH) : call ld.pg hot (k + 1) 0 [x0] L = (execs (cl ld.pg hot k) b_is_place [some x0, none] L).fin L.length := rfl
theorem run_ascends (hot : Bool) (k : Nat) (x0 : V2) (L : LH) : call ld.pg hot (k + 1) 48 [x0] L = (execs (cl ld.pg hot k) b_ascends [some x0, none] L).fin L.length := rfl
theorem run_check_names (hot : Bool) (k : Nat) (x0 : V2) (L : LH) : call ld.pg hot (k + 1) 29 [x0] L = (execs (cl ld.pg hot k) b_check_names [some x0, none] L).fin L.length := rfl
theorem run_check_known (hot : Bool) (k : Nat) (x0 x1 : V2) (L : LH) : call ld.pg hot (k + 1) 49 [x0, x1] L = (execs (cl ld.pg hot k) b_check_known [some x0, some x1, none] L).fin L.length := rfl
theorem run_make_lot (hot : Bool) (k : Nat) (x0 : V2) (L : LH) : call ld.pg hot (k + 1) 30 [x0] L = (execs (cl ld.pg hot k) b_make_lot [some x0, none, none] L).fin L.length := rfl
theorem run_is_lot (hot : Bool) (k : Nat) (x0 : V2) (L : LH) : call ld.pg hot (k + 1) 50 [x0] L = (execs (cl ld.pg hot k) b_is_lot [some x0, none] L).fin L.length := rfl
theorem run_check_place (hot : Bool) (k : Nat) (x0 x1 : V2) (L : LH) : call ld.pg hot (k + 1) 51 [x0, x1] L = (execs (cl ld.pg hot k) b_check_place [some x0, some x1] L).fin L.length := rfl
theorem run_check_lot (hot : Bool) (k : Nat) (x0 x1 : V2) (L : LH) : call ld.pg hot (k + 1) 52 [x0, x1] L = (execs (cl ld.pg hot k) b_check_lot [some x0, some x1] L).fin L.length := rfl
theorem run_check_places (hot : Bool) (k : Nat) (x0 x1 : V2) (L : LH) : call ld.pg hot (k + 1) 53 [x0, x1] L = (execs (cl ld.pg hot k) b_check_places [some x0, some x1] L).fin L.length := rfl
theorem run__law_mix (hot : Bool) (k : Nat) (x0 x1 : V2) (L : LH) : call ld.pg hot (k + 1) 1 [x0, x1] L = (execs (cl ld.pg hot k) b__law_mix [some x0, some x1, none, none, none] L).fin L.length := rfl
theorem run__law_store (hot : Bool) (k : Nat) (x0 : V2) (L : LH) : call ld.pg hot (k + 1) 2 [x0] L = (execs (cl ld.pg hot k) b__law_store [some x0, none, none, none] L).fin L.length := rfl
theorem run__law_take (hot : Bool) (k : Nat) (x0 x1 : V2) (L : LH) : call ld.pg hot (k + 1) 3 [x0, x1] L = (execs (cl ld.pg hot k) b__law_take [some x0, some x1, none, none] L).fin L.length := rfl
theorem run__law_pick (hot : Bool) (k : Nat) (x0 x1 : V2) (L : LH) : call ld.pg hot (k + 1) 4 [x0, x1] L = (execs (cl ld.pg hot k) b__law_pick [some x0, some x1] L).fin L.length := rfl
theorem run__law_chance (hot : Bool) (k : Nat) (x0 x1 : V2) (L : LH) : call ld.pg hot (k + 1) 31 [x0, x1] L = (execs (cl ld.pg hot k) b__law_chance [some x0, some x1] L).fin L.length := rfl
theorem run__law_many (hot : Bool) (k : Nat) (x0 x1 x2 : V2) (L : LH) : call ld.pg hot (k + 1) 5 [x0, x1, x2] L = (execs (cl ld.pg hot k) b__law_many [some x0, some x1, some x2, none] L).fin L.length := rfl
theorem run__law_some (hot : Bool) (k : Nat) (x0 x1 : V2) (L : LH) : call ld.pg hot (k + 1) 54 [x0, x1] L = (execs (cl ld.pg hot k) b__law_some [some x0, some x1, none, none, none] L).fin L.length := rfl
theorem run__law_same (hot : Bool) (k : Nat) (x0 x1 : V2) (L : LH) : call ld.pg hot (k + 1) 6 [x0, x1] L = (execs (cl ld.pg hot k) b__law_same [some x0, some x1, none] L).fin L.length := rfl
theorem run__law_ascends (hot : Bool) (k : Nat) (x0 : V2) (L : LH) : call ld.pg hot (k + 1) 34 [x0] L = (execs (cl ld.pg hot k) b__law_ascends [some x0, none] L).fin L.length := rfl
theorem run__law_letters (hot : Bool) (k : Nat) (L : LH) : call ld.pg hot (k + 1) 7 [] L = (execs (cl ld.pg hot k) b__law_letters [] L).fin L.length := rfl
theorem run__law_signs (hot : Bool) (k : Nat) (L : LH) : call ld.pg hot (k + 1) 8 [] L = (execs (cl ld.pg hot k) b__law_signs [none] L).fin L.length := rfl
theorem run__law_is_place (hot : Bool) (k : Nat) (x0 : V2) (L : LH) : call ld.pg hot (k + 1) 35 [x0] L = (execs (cl ld.pg hot k) b__law_is_place [some x0, none] L).fin L.length := rfl
theorem run__law_name (hot : Bool) (k : Nat) (x0 : V2) (L : LH) : call ld.pg hot (k + 1) 9 [x0] L = (execs (cl ld.pg hot k) b__law_name [some x0, none, none] L).fin L.length := rfl
theorem run__law_unlike (hot : Bool) (k : Nat) (x0 x1 : V2) (L : LH) : call ld.pg hot (k + 1) 36 [x0, x1] L = (execs (cl ld.pg hot k) b__law_unlike [some x0, some x1, none, none] L).fin L.length := rfl
theorem run__law_world (hot : Bool) (k : Nat) (x0 x1 x2 : V2) (L : LH) : call ld.pg hot (k + 1) 37 [x0, x1, x2] L = (execs (cl ld.pg hot k) b__law_world [some x0, some x1, some x2, none, none, none, none, none, none, none] L).fin L.length := rfl
theorem run__law_fresh (hot : Bool) (k : Nat) (x0 x1 : V2) (L : LH) : call ld.pg hot (k + 1) 55 [x0, x1] L = (execs (cl ld.pg hot k) b__law_fresh [some x0, some x1, none, none] L).fin L.length := rfl
theorem run__law_bad_place (hot : Bool) (k : Nat) (x0 : V2) (L : LH) : call ld.pg hot (k + 1) 10 [x0] L = (execs (cl ld.pg hot k) b__law_bad_place [some x0, none, none, none, none] L).fin L.length := rfl
theorem run__law_raw_place (hot : Bool) (k : Nat) (x0 : V2) (L : LH) : call ld.pg hot (k + 1) 11 [x0] L = (execs (cl ld.pg hot k) b__law_raw_place [some x0, none, none, none, none] L).fin L.length := rfl
theorem run__law_bent_lot (hot : Bool) (k : Nat) (x0 x1 : V2) (L : LH) : call ld.pg hot (k + 1) 56 [x0, x1] L = (execs (cl ld.pg hot k) b__law_bent_lot [some x0, some x1, none, none, none] L).fin L.length := rfl
theorem run__law_place_due (hot : Bool) (k : Nat) (x0 x1 : V2) (L : LH) : call ld.pg hot (k + 1) 57 [x0, x1] L = (execs (cl ld.pg hot k) b__law_place_due [some x0, some x1] L).fin L.length := rfl
theorem run__law_lot_due (hot : Bool) (k : Nat) (x0 x1 : V2) (L : LH) : call ld.pg hot (k + 1) 58 [x0, x1] L = (execs (cl ld.pg hot k) b__law_lot_due [some x0, some x1, none] L).fin L.length := rfl
theorem run__law_world_due (hot : Bool) (k : Nat) (x0 x1 : V2) (L : LH) : call ld.pg hot (k + 1) 59 [x0, x1] L = (execs (cl ld.pg hot k) b__law_world_due [some x0, some x1, none] L).fin L.length := rfl
theorem run__law_crowd (hot : Bool) (k : Nat) (x0 x1 : V2) (L : LH) : call ld.pg hot (k + 1) 41 [x0, x1] L = (execs (cl ld.pg hot k) b__law_crowd [some x0, some x1, none, none, none, none, none, none] L).fin L.length := rfl
theorem run__law_clear (hot : Bool) (k : Nat) (x0 : V2) (L : LH) : call ld.pg hot (k + 1) 60 [x0] L = (execs (cl ld.pg hot k) b__law_clear [some x0, none, none] L).fin L.length := rfl
theorem run__law_ask (hot : Bool) (k : Nat) (x0 x1 x2 : V2) (L : LH) : call ld.pg hot (k + 1) 61 [x0, x1, x2] L = (execs (cl ld.pg hot k) b__law_ask [some x0, some x1, some x2, none] L).fin L.length := rfl
theorem run__law_fits (hot : Bool) (k : Nat) (x0 x1 : V2) (L : LH) : call ld.pg hot (k + 1) 62 [x0, x1] L = (execs (cl ld.pg hot k) b__law_fits [some x0, some x1] L).fin L.length := rfl
theorem run__law_tuple_right (hot : Bool) (k : Nat) (x0 x1 x2 : V2) (L : LH) : call ld.pg hot (k + 1) 63 [x0, x1, x2] L = (execs (cl ld.pg hot k) b__law_tuple_right [some x0, some x1, some x2, none] L).fin L.length := rfl
theorem run__law_words_right (hot : Bool) (k : Nat) (x0 x1 : V2) (L : LH) : call ld.pg hot (k + 1) 64 [x0, x1] L = (execs (cl ld.pg hot k) b__law_words_right [some x0, some x1, none, none] L).fin L.length := rfl
theorem run__law_great_right (hot : Bool) (k : Nat) (x0 x1 : V2) (L : LH) : call ld.pg hot (k + 1) 65 [x0, x1] L = (execs (cl ld.pg hot k) b__law_great_right [some x0, some x1, none, none] L).fin L.length := rfl
theorem run_law (hot : Bool) (k : Nat) (x0 : V2) (L : LH) : call ld.pg hot (k + 1) 14 [x0] L = (execs (cl ld.pg hot k) b_law [some x0, none, none, none, none, none, none, none, none, none, none] L).fin L.length := rfl
@[simp] theorem bnd__law_ascends_1 (x0 : V2) : ld.pg.bind 34 [x0] [] = some [x0] := rfl
@[simp] theorem bnd__law_ask_3 (x0 x1 x2 : V2) : ld.pg.bind 61 [x0, x1, x2] [] = some [x0, x1, x2] := rfl
@[simp] theorem bnd__law_bad_place_1 (x0 : V2) : ld.pg.bind 10 [x0] [] = some [x0] := rfl
@[simp] theorem bnd__law_bent_lot_2 (x0 x1 : V2) : ld.pg.bind 56 [x0, x1] [] = some [x0, x1] := rfl
@[simp] theorem bnd__law_chance_2 (x0 x1 : V2) : ld.pg.bind 31 [x0, x1] [] = some [x0, x1] := rfl
@[simp] theorem bnd__law_clear_1 (x0 : V2) : ld.pg.bind 60 [x0] [] = some [x0] := rfl
@[simp] theorem bnd__law_crowd_2 (x0 x1 : V2) : ld.pg.bind 41 [x0, x1] [] = some [x0, x1] := rfl
@[simp] theorem bnd__law_fits_2 (x0 x1 : V2) : ld.pg.bind 62 [x0, x1] [] = some [x0, x1] := rfl
@[simp] theorem bnd__law_fresh_2 (x0 x1 : V2) : ld.pg.bind 55 [x0, x1] [] = some [x0, x1] := rfl
@[simp] theorem bnd__law_great_right_2 (x0 x1 : V2) : ld.pg.bind 65 [x0, x1] [] = some [x0, x1] := rfl
@[simp] theorem bnd__law_is_place_1 (x0 : V2) : ld.pg.bind 35 [x0] [] = some [x0] := rfl
@[simp] theorem bnd__law_letters_0 : ld.pg.bind 7 [] [] = some [] := rfl
@[simp] theorem bnd__law_lot_due_2 (x0 x1 : V2) : ld.pg.bind 58 [x0, x1] [] = some [x0, x1] := rfl
@[simp] theorem bnd__law_many_3 (x0 x1 x2 : V2) : ld.pg.bind 5 [x0, x1, x2] [] = some [x0, x1, x2] := rfl
@[simp] theorem bnd__law_mix_2 (x0 x1 : V2) : ld.pg.bind 1 [x0, x1] [] = some [x0, x1] := rfl
@[simp] theorem bnd__law_name_1 (x0 : V2) : ld.pg.bind 9 [x0] [] = some [x0] := rfl
@[simp] theorem bnd__law_pick_2 (x0 x1 : V2) : ld.pg.bind 4 [x0, x1] [] = some [x0, x1] := rfl
@[simp] theorem bnd__law_place_due_2 (x0 x1 : V2) : ld.pg.bind 57 [x0, x1] [] = some [x0, x1] := rfl
@[simp] theorem bnd__law_raw_place_1 (x0 : V2) : ld.pg.bind 11 [x0] [] = some [x0] := rfl
@[simp] theorem bnd__law_same_2 (x0 x1 : V2) : ld.pg.bind 6 [x0, x1] [] = some [x0, x1] := rfl
@[simp] theorem bnd__law_signs_0 : ld.pg.bind 8 [] [] = some [] := rfl
@[simp] theorem bnd__law_some_2 (x0 x1 : V2) : ld.pg.bind 54 [x0, x1] [] = some [x0, x1] := rfl
@[simp] theorem bnd__law_store_1 (x0 : V2) : ld.pg.bind 2 [x0] [] = some [x0] := rfl
@[simp] theorem bnd__law_take_2 (x0 x1 : V2) : ld.pg.bind 3 [x0, x1] [] = some [x0, x1] := rfl
@[simp] theorem bnd__law_tuple_right_3 (x0 x1 x2 : V2) : ld.pg.bind 63 [x0, x1, x2] [] = some [x0, x1, x2] := rfl
@[simp] theorem bnd__law_unlike_2 (x0 x1 : V2) : ld.pg.bind 36 [x0, x1] [] = some [x0, x1] := rfl
@[simp] theorem bnd__law_words_right_2 (x0 x1 : V2) : ld.pg.bind 64 [x0, x1] [] = some [x0, x1] := rfl
@[simp] theorem bnd__law_world_3 (x0 x1 x2 : V2) : ld.pg.bind 37 [x0, x1, x2] [] = some [x0, x1, x2] := rfl
@[simp] theorem bnd__law_world_due_2 (x0 x1 : V2) : ld.pg.bind 59 [x0, x1] [] = some [x0, x1] := rfl
@[simp] theorem bnd_ascends_1 (x0 : V2) : ld.pg.bind 48 [x0] [] = some [x0] := rfl
@[simp] theorem bnd_check_known_2 (x0 x1 : V2) : ld.pg.bind 49 [x0, x1] [] = some [x0, x1] := rfl
@[simp] theorem bnd_check_lot_1 (x0 : V2) : ld.pg.bind 52 [x0] [] = some [x0, .val (.non)] := rfl
@[simp] theorem bnd_check_lot_1_places (x0 x1 : V2) : ld.pg.bind 52 [x0] [(67, x1)] = some [x0, x1] := rfl
@[simp] theorem bnd_check_names_1 (x0 : V2) : ld.pg.bind 29 [x0] [] = some [x0] := rfl
@[simp] theorem bnd_check_place_0_place_places (x0 x1 : V2) : ld.pg.bind 51 [] [(169, x0), (67, x1)] = some [x0, x1] := rfl
@[simp] theorem bnd_check_place_1 (x0 : V2) : ld.pg.bind 51 [x0] [] = some [x0, .val (.non)] := rfl
@[simp] theorem bnd_check_place_1_places (x0 x1 : V2) : ld.pg.bind 51 [x0] [(67, x1)] = some [x0, x1] := rfl
@[simp] theorem bnd_check_places_1 (x0 : V2) : ld.pg.bind 53 [x0] [] = some [x0, .val (.int 7)] := rfl
@[simp] theorem bnd_check_places_1_most (x0 x1 : V2) : ld.pg.bind 53 [x0] [(201, x1)] = some [x0, x1] := rfl
@[simp] theorem bnd_is_lot_1 (x0 : V2) : ld.pg.bind 50 [x0] [] = some [x0] := rfl
@[simp] theorem bnd_is_place_1 (x0 : V2) : ld.pg.bind 0 [x0] [] = some [x0] := rfl
@[simp] theorem bnd_make_lot_1 (x0 : V2) : ld.pg.bind 30 [x0] [] = some [x0] := rfl
@[simp] theorem exc_BadLot : ld.pg.exc 170 = some (1, [(171, 1)]) := rfl
@[simp] theorem isi_BadLot_BadCell (L : LH) (fs : List (Nat × D)) : isIC ld.pg.kit L (.exn 170 fs) [.own 191] = some false := rfl
@[simp] theorem sub_BadLot_BadCell : ld.pg.sub 170 191 = some false := rfl
@[simp] theorem isi_BadLot_BadKind (L : LH) (fs : List (Nat × D)) : isIC ld.pg.kit L (.exn 170 fs) [.own 195] = some false := rfl
@[simp] theorem sub_BadLot_BadKind : ld.pg.sub 170 195 = some false := rfl
@[simp] theorem isi_BadLot_BadLot (L : LH) (fs : List (Nat × D)) : isIC ld.pg.kit L (.exn 170 fs) [.own 170] = some true := rfl
@[simp] theorem sub_BadLot_BadLot : ld.pg.sub 170 170 = some true := rfl
@[simp] theorem isi_BadLot_BadNumber (L : LH) (fs : List (Nat × D)) : isIC ld.pg.kit L (.exn 170 fs) [.own 186] = some false := rfl
@[simp] theorem sub_BadLot_BadNumber : ld.pg.sub 170 186 = some false := rfl
@[simp] theorem isi_BadLot_BadPlace (L : LH) (fs : List (Nat × D)) : isIC ld.pg.kit L (.exn 170 fs) [.own 46] = some false := rfl
@[simp] theorem sub_BadLot_BadPlace : ld.pg.sub 170 46 = some false := rfl
@[simp] theorem isi_BadLot_BadRule (L : LH) (fs : List (Nat × D)) : isIC ld.pg.kit L (.exn 170 fs) [.own 182] = some false := rfl
@[simp] theorem sub_BadLot_BadRule : ld.pg.sub 170 182 = some false := rfl
@[simp] theorem isi_BadLot_BadSaying (L : LH) (fs : List (Nat × D)) : isIC ld.pg.kit L (.exn 170 fs) [.own 173] = some false := rfl
@[simp] theorem sub_BadLot_BadSaying : ld.pg.sub 170 173 = some false := rfl
@[simp] theorem isi_BadLot_BadTable (L : LH) (fs : List (Nat × D)) : isIC ld.pg.kit L (.exn 170 fs) [.own 190] = some false := rfl
@[simp] theorem sub_BadLot_BadTable : ld.pg.sub 170 190 = some false := rfl
@[simp] theorem isi_BadLot_BadText (L : LH) (fs : List (Nat × D)) : isIC ld.pg.kit L (.exn 170 fs) [.own 196] = some false := rfl
@[simp] theorem sub_BadLot_BadText : ld.pg.sub 170 196 = some false := rfl
@[simp] theorem isi_BadLot_BadUse (L : LH) (fs : List (Nat × D)) : isIC ld.pg.kit L (.exn 170 fs) [.own 184] = some false := rfl
@[simp] theorem sub_BadLot_BadUse : ld.pg.sub 170 184 = some false := rfl
@[simp] theorem isi_BadLot_Disagree (L : LH) (fs : List (Nat × D)) : isIC ld.pg.kit L (.exn 170 fs) [.own 188] = some false := rfl
@[simp] theorem sub_BadLot_Disagree : ld.pg.sub 170 188 = some false := rfl
@[simp] theorem isi_BadLot_InUse (L : LH) (fs : List (Nat × D)) : isIC ld.pg.kit L (.exn 170 fs) [.own 194] = some false := rfl
@[simp] theorem sub_BadLot_InUse : ld.pg.sub 170 194 = some false := rfl
@[simp] theorem isi_BadLot_KeepError (L : LH) (fs : List (Nat × D)) : isIC ld.pg.kit L (.exn 170 fs) [.own 167] = some true := rfl
@[simp] theorem sub_BadLot_KeepError : ld.pg.sub 170 167 = some true := rfl
@[simp] theorem isi_BadLot_NoChange (L : LH) (fs : List (Nat × D)) : isIC ld.pg.kit L (.exn 170 fs) [.own 198] = some false := rfl
@[simp] theorem sub_BadLot_NoChange : ld.pg.sub 170 198 = some false := rfl
@[simp] theorem isi_BadLot_NotKept (L : LH) (fs : List (Nat × D)) : isIC ld.pg.kit L (.exn 170 fs) [.own 187] = some false := rfl
@[simp] theorem sub_BadLot_NotKept : ld.pg.sub 170 187 = some false := rfl
@[simp] theorem isi_BadLot_NotTold (L : LH) (fs : List (Nat × D)) : isIC ld.pg.kit L (.exn 170 fs) [.own 193] = some false := rfl
@[simp] theorem sub_BadLot_NotTold : ld.pg.sub 170 193 = some false := rfl
@[simp] theorem isi_BadLot_OtherPlaces (L : LH) (fs : List (Nat × D)) : isIC ld.pg.kit L (.exn 170 fs) [.own 176] = some false := rfl
@[simp] theorem sub_BadLot_OtherPlaces : ld.pg.sub 170 176 = some false := rfl
@[simp] theorem isi_BadLot_Repeated (L : LH) (fs : List (Nat × D)) : isIC ld.pg.kit L (.exn 170 fs) [.own 164] = some false := rfl
@[simp] theorem sub_BadLot_Repeated : ld.pg.sub 170 164 = some false := rfl
@[simp] theorem isi_BadLot_Shared (L : LH) (fs : List (Nat × D)) : isIC ld.pg.kit L (.exn 170 fs) [.own 175] = some false := rfl
@[simp] theorem sub_BadLot_Shared : ld.pg.sub 170 175 = some false := rfl
@[simp] theorem isi_BadLot_TooFew (L : LH) (fs : List (Nat × D)) : isIC ld.pg.kit L (.exn 170 fs) [.own 181] = some false := rfl
@[simp] theorem sub_BadLot_TooFew : ld.pg.sub 170 181 = some false := rfl
@[simp] theorem isi_BadLot_TooMany (L : LH) (fs : List (Nat × D)) : isIC ld.pg.kit L (.exn 170 fs) [.own 179] = some false := rfl
@[simp] theorem sub_BadLot_TooMany : ld.pg.sub 170 179 = some false := rfl
@[simp] theorem isi_BadLot_Unknown (L : LH) (fs : List (Nat × D)) : isIC ld.pg.kit L (.exn 170 fs) [.own 66] = some false := rfl
@[simp] theorem sub_BadLot_Unknown : ld.pg.sub 170 66 = some false := rfl
@[simp] theorem isi_BadLot_ValueError (L : LH) (fs : List (Nat × D)) : isIC ld.pg.kit L (.exn 170 fs) [.ty "ValueError"] = some true := rfl
@[simp] theorem exc_BadPlace : ld.pg.exc 46 = some (1, [(169, 1)]) := rfl
@[simp] theorem isi_BadPlace_BadCell (L : LH) (fs : List (Nat × D)) : isIC ld.pg.kit L (.exn 46 fs) [.own 191] = some false := rfl
@[simp] theorem sub_BadPlace_BadCell : ld.pg.sub 46 191 = some false := rfl
@[simp] theorem isi_BadPlace_BadKind (L : LH) (fs : List (Nat × D)) : isIC ld.pg.kit L (.exn 46 fs) [.own 195] = some false := rfl
@[simp] theorem sub_BadPlace_BadKind : ld.pg.sub 46 195 = some false := rfl
@[simp] theorem isi_BadPlace_BadLot (L : LH) (fs : List (Nat × D)) : isIC ld.pg.kit L (.exn 46 fs) [.own 170] = some false := rfl
@[simp] theorem sub_BadPlace_BadLot : ld.pg.sub 46 170 = some false := rfl
@[simp] theorem isi_BadPlace_BadNumber (L : LH) (fs : List (Nat × D)) : isIC ld.pg.kit L (.exn 46 fs) [.own 186] = some false := rfl
@[simp] theorem sub_BadPlace_BadNumber : ld.pg.sub 46 186 = some false := rfl
@[simp] theorem isi_BadPlace_BadPlace (L : LH) (fs : List (Nat × D)) : isIC ld.pg.kit L (.exn 46 fs) [.own 46] = some true := rfl
@[simp] theorem sub_BadPlace_BadPlace : ld.pg.sub 46 46 = some true := rfl
@[simp] theorem isi_BadPlace_BadRule (L : LH) (fs : List (Nat × D)) : isIC ld.pg.kit L (.exn 46 fs) [.own 182] = some false := rfl
@[simp] theorem sub_BadPlace_BadRule : ld.pg.sub 46 182 = some false := rfl
@[simp] theorem isi_BadPlace_BadSaying (L : LH) (fs : List (Nat × D)) : isIC ld.pg.kit L (.exn 46 fs) [.own 173] = some false := rfl
@[simp] theorem sub_BadPlace_BadSaying : ld.pg.sub 46 173 = some false := rfl
@[simp] theorem isi_BadPlace_BadTable (L : LH) (fs : List (Nat × D)) : isIC ld.pg.kit L (.exn 46 fs) [.own 190] = some false := rfl
@[simp] theorem sub_BadPlace_BadTable : ld.pg.sub 46 190 = some false := rfl
@[simp] theorem isi_BadPlace_BadText (L : LH) (fs : List (Nat × D)) : isIC ld.pg.kit L (.exn 46 fs) [.own 196] = some false := rfl
@[simp] theorem sub_BadPlace_BadText : ld.pg.sub 46 196 = some false := rfl
@[simp] theorem isi_BadPlace_BadUse (L : LH) (fs : List (Nat × D)) : isIC ld.pg.kit L (.exn 46 fs) [.own 184] = some false := rfl
@[simp] theorem sub_BadPlace_BadUse : ld.pg.sub 46 184 = some false := rfl
@[simp] theorem isi_BadPlace_Disagree (L : LH) (fs : List (Nat × D)) : isIC ld.pg.kit L (.exn 46 fs) [.own 188] = some false := rfl
@[simp] theorem sub_BadPlace_Disagree : ld.pg.sub 46 188 = some false := rfl
@[simp] theorem isi_BadPlace_InUse (L : LH) (fs : List (Nat × D)) : isIC ld.pg.kit L (.exn 46 fs) [.own 194] = some false := rfl
@[simp] theorem sub_BadPlace_InUse : ld.pg.sub 46 194 = some false := rfl
@[simp] theorem isi_BadPlace_KeepError (L : LH) (fs : List (Nat × D)) : isIC ld.pg.kit L (.exn 46 fs) [.own 167] = some true := rfl
@[simp] theorem sub_BadPlace_KeepError : ld.pg.sub 46 167 = some true := rfl
@[simp] theorem isi_BadPlace_NoChange (L : LH) (fs : List (Nat × D)) : isIC ld.pg.kit L (.exn 46 fs) [.own 198] = some false := rfl
@[simp] theorem sub_BadPlace_NoChange : ld.pg.sub 46 198 = some false := rfl
@[simp] theorem isi_BadPlace_NotKept (L : LH) (fs : List (Nat × D)) : isIC ld.pg.kit L (.exn 46 fs) [.own 187] = some false := rfl
@[simp] theorem sub_BadPlace_NotKept : ld.pg.sub 46 187 = some false := rfl
@[simp] theorem isi_BadPlace_NotTold (L : LH) (fs : List (Nat × D)) : isIC ld.pg.kit L (.exn 46 fs) [.own 193] = some false := rfl
@[simp] theorem sub_BadPlace_NotTold : ld.pg.sub 46 193 = some false := rfl
@[simp] theorem isi_BadPlace_OtherPlaces (L : LH) (fs : List (Nat × D)) : isIC ld.pg.kit L (.exn 46 fs) [.own 176] = some false := rfl
@[simp] theorem sub_BadPlace_OtherPlaces : ld.pg.sub 46 176 = some false := rfl
@[simp] theorem isi_BadPlace_Repeated (L : LH) (fs : List (Nat × D)) : isIC ld.pg.kit L (.exn 46 fs) [.own 164] = some false := rfl
@[simp] theorem sub_BadPlace_Repeated : ld.pg.sub 46 164 = some false := rfl
@[simp] theorem isi_BadPlace_Shared (L : LH) (fs : List (Nat × D)) : isIC ld.pg.kit L (.exn 46 fs) [.own 175] = some false := rfl
@[simp] theorem sub_BadPlace_Shared : ld.pg.sub 46 175 = some false := rfl
@[simp] theorem isi_BadPlace_TooFew (L : LH) (fs : List (Nat × D)) : isIC ld.pg.kit L (.exn 46 fs) [.own 181] = some false := rfl
@[simp] theorem sub_BadPlace_TooFew : ld.pg.sub 46 181 = some false := rfl
@[simp] theorem isi_BadPlace_TooMany (L : LH) (fs : List (Nat × D)) : isIC ld.pg.kit L (.exn 46 fs) [.own 179] = some false := rfl
@[simp] theorem sub_BadPlace_TooMany : ld.pg.sub 46 179 = some false := rfl
@[simp] theorem isi_BadPlace_Unknown (L : LH) (fs : List (Nat × D)) : isIC ld.pg.kit L (.exn 46 fs) [.own 66] = some false := rfl
@[simp] theorem sub_BadPlace_Unknown : ld.pg.sub 46 66 = some false := rfl
@[simp] theorem isi_BadPlace_ValueError (L : LH) (fs : List (Nat × D)) : isIC ld.pg.kit L (.exn 46 fs) [.ty "ValueError"] = some true := rfl
@[simp] theorem exc_Repeated : ld.pg.exc 164 = some (1, [(172, 1)]) := rfl
@[simp] theorem isi_Repeated_BadCell (L : LH) (fs : List (Nat × D)) : isIC ld.pg.kit L (.exn 164 fs) [.own 191] = some false := rfl
@[simp] theorem sub_Repeated_BadCell : ld.pg.sub 164 191 = some false := rfl
@[simp] theorem isi_Repeated_BadKind (L : LH) (fs : List (Nat × D)) : isIC ld.pg.kit L (.exn 164 fs) [.own 195] = some false := rfl
@[simp] theorem sub_Repeated_BadKind : ld.pg.sub 164 195 = some false := rfl
@[simp] theorem isi_Repeated_BadLot (L : LH) (fs : List (Nat × D)) : isIC ld.pg.kit L (.exn 164 fs) [.own 170] = some false := rfl
@[simp] theorem sub_Repeated_BadLot : ld.pg.sub 164 170 = some false := rfl
@[simp] theorem isi_Repeated_BadNumber (L : LH) (fs : List (Nat × D)) : isIC ld.pg.kit L (.exn 164 fs) [.own 186] = some false := rfl
@[simp] theorem sub_Repeated_BadNumber : ld.pg.sub 164 186 = some false := rfl
@[simp] theorem isi_Repeated_BadPlace (L : LH) (fs : List (Nat × D)) : isIC ld.pg.kit L (.exn 164 fs) [.own 46] = some false := rfl
@[simp] theorem sub_Repeated_BadPlace : ld.pg.sub 164 46 = some false := rfl
@[simp] theorem isi_Repeated_BadRule (L : LH) (fs : List (Nat × D)) : isIC ld.pg.kit L (.exn 164 fs) [.own 182] = some false := rfl
@[simp] theorem sub_Repeated_BadRule : ld.pg.sub 164 182 = some false := rfl
@[simp] theorem isi_Repeated_BadSaying (L : LH) (fs : List (Nat × D)) : isIC ld.pg.kit L (.exn 164 fs) [.own 173] = some false := rfl
@[simp] theorem sub_Repeated_BadSaying : ld.pg.sub 164 173 = some false := rfl
@[simp] theorem isi_Repeated_BadTable (L : LH) (fs : List (Nat × D)) : isIC ld.pg.kit L (.exn 164 fs) [.own 190] = some false := rfl
@[simp] theorem sub_Repeated_BadTable : ld.pg.sub 164 190 = some false := rfl
@[simp] theorem isi_Repeated_BadText (L : LH) (fs : List (Nat × D)) : isIC ld.pg.kit L (.exn 164 fs) [.own 196] = some false := rfl
@[simp] theorem sub_Repeated_BadText : ld.pg.sub 164 196 = some false := rfl
@[simp] theorem isi_Repeated_BadUse (L : LH) (fs : List (Nat × D)) : isIC ld.pg.kit L (.exn 164 fs) [.own 184] = some false := rfl
@[simp] theorem sub_Repeated_BadUse : ld.pg.sub 164 184 = some false := rfl
@[simp] theorem isi_Repeated_Disagree (L : LH) (fs : List (Nat × D)) : isIC ld.pg.kit L (.exn 164 fs) [.own 188] = some false := rfl
@[simp] theorem sub_Repeated_Disagree : ld.pg.sub 164 188 = some false := rfl
@[simp] theorem isi_Repeated_InUse (L : LH) (fs : List (Nat × D)) : isIC ld.pg.kit L (.exn 164 fs) [.own 194] = some false := rfl
@[simp] theorem sub_Repeated_InUse : ld.pg.sub 164 194 = some false := rfl
@[simp] theorem isi_Repeated_KeepError (L : LH) (fs : List (Nat × D)) : isIC ld.pg.kit L (.exn 164 fs) [.own 167] = some true := rfl
@[simp] theorem sub_Repeated_KeepError : ld.pg.sub 164 167 = some true := rfl
@[simp] theorem isi_Repeated_NoChange (L : LH) (fs : List (Nat × D)) : isIC ld.pg.kit L (.exn 164 fs) [.own 198] = some false := rfl
@[simp] theorem sub_Repeated_NoChange : ld.pg.sub 164 198 = some false := rfl
@[simp] theorem isi_Repeated_NotKept (L : LH) (fs : List (Nat × D)) : isIC ld.pg.kit L (.exn 164 fs) [.own 187] = some false := rfl
@[simp] theorem sub_Repeated_NotKept : ld.pg.sub 164 187 = some false := rfl
@[simp] theorem isi_Repeated_NotTold (L : LH) (fs : List (Nat × D)) : isIC ld.pg.kit L (.exn 164 fs) [.own 193] = some false := rfl
@[simp] theorem sub_Repeated_NotTold : ld.pg.sub 164 193 = some false := rfl
@[simp] theorem isi_Repeated_OtherPlaces (L : LH) (fs : List (Nat × D)) : isIC ld.pg.kit L (.exn 164 fs) [.own 176] = some false := rfl
@[simp] theorem sub_Repeated_OtherPlaces : ld.pg.sub 164 176 = some false := rfl
@[simp] theorem isi_Repeated_Repeated (L : LH) (fs : List (Nat × D)) : isIC ld.pg.kit L (.exn 164 fs) [.own 164] = some true := rfl
@[simp] theorem sub_Repeated_Repeated : ld.pg.sub 164 164 = some true := rfl
@[simp] theorem isi_Repeated_Shared (L : LH) (fs : List (Nat × D)) : isIC ld.pg.kit L (.exn 164 fs) [.own 175] = some false := rfl
@[simp] theorem sub_Repeated_Shared : ld.pg.sub 164 175 = some false := rfl
@[simp] theorem isi_Repeated_TooFew (L : LH) (fs : List (Nat × D)) : isIC ld.pg.kit L (.exn 164 fs) [.own 181] = some false := rfl
@[simp] theorem sub_Repeated_TooFew : ld.pg.sub 164 181 = some false := rfl
@[simp] theorem isi_Repeated_TooMany (L : LH) (fs : List (Nat × D)) : isIC ld.pg.kit L (.exn 164 fs) [.own 179] = some false := rfl
@[simp] theorem sub_Repeated_TooMany : ld.pg.sub 164 179 = some false := rfl
@[simp] theorem isi_Repeated_Unknown (L : LH) (fs : List (Nat × D)) : isIC ld.pg.kit L (.exn 164 fs) [.own 66] = some false := rfl
@[simp] theorem sub_Repeated_Unknown : ld.pg.sub 164 66 = some false := rfl
@[simp] theorem isi_Repeated_ValueError (L : LH) (fs : List (Nat × D)) : isIC ld.pg.kit L (.exn 164 fs) [.ty "ValueError"] = some true := rfl
@[simp] theorem exc_TooMany : ld.pg.exc 179 = some (2, [(25, 1), (180, 2)]) := rfl
@[simp] theorem isi_TooMany_BadCell (L : LH) (fs : List (Nat × D)) : isIC ld.pg.kit L (.exn 179 fs) [.own 191] = some false := rfl
@[simp] theorem sub_TooMany_BadCell : ld.pg.sub 179 191 = some false := rfl
@[simp] theorem isi_TooMany_BadKind (L : LH) (fs : List (Nat × D)) : isIC ld.pg.kit L (.exn 179 fs) [.own 195] = some false := rfl
@[simp] theorem sub_TooMany_BadKind : ld.pg.sub 179 195 = some false := rfl
@[simp] theorem isi_TooMany_BadLot (L : LH) (fs : List (Nat × D)) : isIC ld.pg.kit L (.exn 179 fs) [.own 170] = some false := rfl
@[simp] theorem sub_TooMany_BadLot : ld.pg.sub 179 170 = some false := rfl
@[simp] theorem isi_TooMany_BadNumber (L : LH) (fs : List (Nat × D)) : isIC ld.pg.kit L (.exn 179 fs) [.own 186] = some false := rfl
@[simp] theorem sub_TooMany_BadNumber : ld.pg.sub 179 186 = some false := rfl
@[simp] theorem isi_TooMany_BadPlace (L : LH) (fs : List (Nat × D)) : isIC ld.pg.kit L (.exn 179 fs) [.own 46] = some false := rfl
@[simp] theorem sub_TooMany_BadPlace : ld.pg.sub 179 46 = some false := rfl
@[simp] theorem isi_TooMany_BadRule (L : LH) (fs : List (Nat × D)) : isIC ld.pg.kit L (.exn 179 fs) [.own 182] = some false := rfl
@[simp] theorem sub_TooMany_BadRule : ld.pg.sub 179 182 = some false := rfl
@[simp] theorem isi_TooMany_BadSaying (L : LH) (fs : List (Nat × D)) : isIC ld.pg.kit L (.exn 179 fs) [.own 173] = some false := rfl
@[simp] theorem sub_TooMany_BadSaying : ld.pg.sub 179 173 = some false := rfl
@[simp] theorem isi_TooMany_BadTable (L : LH) (fs : List (Nat × D)) : isIC ld.pg.kit L (.exn 179 fs) [.own 190] = some false := rfl
@[simp] theorem sub_TooMany_BadTable : ld.pg.sub 179 190 = some false := rfl
@[simp] theorem isi_TooMany_BadText (L : LH) (fs : List (Nat × D)) : isIC ld.pg.kit L (.exn 179 fs) [.own 196] = some false := rfl
@[simp] theorem sub_TooMany_BadText : ld.pg.sub 179 196 = some false := rfl
@[simp] theorem isi_TooMany_BadUse (L : LH) (fs : List (Nat × D)) : isIC ld.pg.kit L (.exn 179 fs) [.own 184] = some false := rfl
@[simp] theorem sub_TooMany_BadUse : ld.pg.sub 179 184 = some false := rfl
@[simp] theorem isi_TooMany_Disagree (L : LH) (fs : List (Nat × D)) : isIC ld.pg.kit L (.exn 179 fs) [.own 188] = some false := rfl
@[simp] theorem sub_TooMany_Disagree : ld.pg.sub 179 188 = some false := rfl
@[simp] theorem isi_TooMany_InUse (L : LH) (fs : List (Nat × D)) : isIC ld.pg.kit L (.exn 179 fs) [.own 194] = some false := rfl
@[simp] theorem sub_TooMany_InUse : ld.pg.sub 179 194 = some false := rfl
@[simp] theorem isi_TooMany_KeepError (L : LH) (fs : List (Nat × D)) : isIC ld.pg.kit L (.exn 179 fs) [.own 167] = some true := rfl
@[simp] theorem sub_TooMany_KeepError : ld.pg.sub 179 167 = some true := rfl
@[simp] theorem isi_TooMany_NoChange (L : LH) (fs : List (Nat × D)) : isIC ld.pg.kit L (.exn 179 fs) [.own 198] = some false := rfl
@[simp] theorem sub_TooMany_NoChange : ld.pg.sub 179 198 = some false := rfl
@[simp] theorem isi_TooMany_NotKept (L : LH) (fs : List (Nat × D)) : isIC ld.pg.kit L (.exn 179 fs) [.own 187] = some false := rfl
@[simp] theorem sub_TooMany_NotKept : ld.pg.sub 179 187 = some false := rfl
@[simp] theorem isi_TooMany_NotTold (L : LH) (fs : List (Nat × D)) : isIC ld.pg.kit L (.exn 179 fs) [.own 193] = some false := rfl
@[simp] theorem sub_TooMany_NotTold : ld.pg.sub 179 193 = some false := rfl
@[simp] theorem isi_TooMany_OtherPlaces (L : LH) (fs : List (Nat × D)) : isIC ld.pg.kit L (.exn 179 fs) [.own 176] = some false := rfl
@[simp] theorem sub_TooMany_OtherPlaces : ld.pg.sub 179 176 = some false := rfl
@[simp] theorem isi_TooMany_Repeated (L : LH) (fs : List (Nat × D)) : isIC ld.pg.kit L (.exn 179 fs) [.own 164] = some false := rfl
@[simp] theorem sub_TooMany_Repeated : ld.pg.sub 179 164 = some false := rfl
@[simp] theorem isi_TooMany_Shared (L : LH) (fs : List (Nat × D)) : isIC ld.pg.kit L (.exn 179 fs) [.own 175] = some false := rfl
@[simp] theorem sub_TooMany_Shared : ld.pg.sub 179 175 = some false := rfl
@[simp] theorem isi_TooMany_TooFew (L : LH) (fs : List (Nat × D)) : isIC ld.pg.kit L (.exn 179 fs) [.own 181] = some false := rfl
@[simp] theorem sub_TooMany_TooFew : ld.pg.sub 179 181 = some false := rfl
@[simp] theorem isi_TooMany_TooMany (L : LH) (fs : List (Nat × D)) : isIC ld.pg.kit L (.exn 179 fs) [.own 179] = some true := rfl
@[simp] theorem sub_TooMany_TooMany : ld.pg.sub 179 179 = some true := rfl
@[simp] theorem isi_TooMany_Unknown (L : LH) (fs : List (Nat × D)) : isIC ld.pg.kit L (.exn 179 fs) [.own 66] = some false := rfl
@[simp] theorem sub_TooMany_Unknown : ld.pg.sub 179 66 = some false := rfl
@[simp] theorem isi_TooMany_ValueError (L : LH) (fs : List (Nat × D)) : isIC ld.pg.kit L (.exn 179 fs) [.ty "ValueError"] = some true := rfl
@[simp] theorem exc_Unknown : ld.pg.exc 66 = some (1, [(169, 1)]) := rfl
@[simp] theorem isi_Unknown_BadCell (L : LH) (fs : List (Nat × D)) : isIC ld.pg.kit L (.exn 66 fs) [.own 191] = some false := rfl
@[simp] theorem sub_Unknown_BadCell : ld.pg.sub 66 191 = some false := rfl
@[simp] theorem isi_Unknown_BadKind (L : LH) (fs : List (Nat × D)) : isIC ld.pg.kit L (.exn 66 fs) [.own 195] = some false := rfl
@[simp] theorem sub_Unknown_BadKind : ld.pg.sub 66 195 = some false := rfl
@[simp] theorem isi_Unknown_BadLot (L : LH) (fs : List (Nat × D)) : isIC ld.pg.kit L (.exn 66 fs) [.own 170] = some false := rfl
@[simp] theorem sub_Unknown_BadLot : ld.pg.sub 66 170 = some false := rfl
@[simp] theorem isi_Unknown_BadNumber (L : LH) (fs : List (Nat × D)) : isIC ld.pg.kit L (.exn 66 fs) [.own 186] = some false := rfl
@[simp] theorem sub_Unknown_BadNumber : ld.pg.sub 66 186 = some false := rfl
@[simp] theorem isi_Unknown_BadPlace (L : LH) (fs : List (Nat × D)) : isIC ld.pg.kit L (.exn 66 fs) [.own 46] = some false := rfl
@[simp] theorem sub_Unknown_BadPlace : ld.pg.sub 66 46 = some false := rfl
@[simp] theorem isi_Unknown_BadRule (L : LH) (fs : List (Nat × D)) : isIC ld.pg.kit L (.exn 66 fs) [.own 182] = some false := rfl
@[simp] theorem sub_Unknown_BadRule : ld.pg.sub 66 182 = some false := rfl
@[simp] theorem isi_Unknown_BadSaying (L : LH) (fs : List (Nat × D)) : isIC ld.pg.kit L (.exn 66 fs) [.own 173] = some false := rfl
@[simp] theorem sub_Unknown_BadSaying : ld.pg.sub 66 173 = some false := rfl
@[simp] theorem isi_Unknown_BadTable (L : LH) (fs : List (Nat × D)) : isIC ld.pg.kit L (.exn 66 fs) [.own 190] = some false := rfl
@[simp] theorem sub_Unknown_BadTable : ld.pg.sub 66 190 = some false := rfl
@[simp] theorem isi_Unknown_BadText (L : LH) (fs : List (Nat × D)) : isIC ld.pg.kit L (.exn 66 fs) [.own 196] = some false := rfl
@[simp] theorem sub_Unknown_BadText : ld.pg.sub 66 196 = some false := rfl
@[simp] theorem isi_Unknown_BadUse (L : LH) (fs : List (Nat × D)) : isIC ld.pg.kit L (.exn 66 fs) [.own 184] = some false := rfl
@[simp] theorem sub_Unknown_BadUse : ld.pg.sub 66 184 = some false := rfl
@[simp] theorem isi_Unknown_Disagree (L : LH) (fs : List (Nat × D)) : isIC ld.pg.kit L (.exn 66 fs) [.own 188] = some false := rfl
@[simp] theorem sub_Unknown_Disagree : ld.pg.sub 66 188 = some false := rfl
@[simp] theorem isi_Unknown_InUse (L : LH) (fs : List (Nat × D)) : isIC ld.pg.kit L (.exn 66 fs) [.own 194] = some false := rfl
@[simp] theorem sub_Unknown_InUse : ld.pg.sub 66 194 = some false := rfl
@[simp] theorem isi_Unknown_KeepError (L : LH) (fs : List (Nat × D)) : isIC ld.pg.kit L (.exn 66 fs) [.own 167] = some true := rfl
@[simp] theorem sub_Unknown_KeepError : ld.pg.sub 66 167 = some true := rfl
@[simp] theorem isi_Unknown_NoChange (L : LH) (fs : List (Nat × D)) : isIC ld.pg.kit L (.exn 66 fs) [.own 198] = some false := rfl
@[simp] theorem sub_Unknown_NoChange : ld.pg.sub 66 198 = some false := rfl
@[simp] theorem isi_Unknown_NotKept (L : LH) (fs : List (Nat × D)) : isIC ld.pg.kit L (.exn 66 fs) [.own 187] = some false := rfl
@[simp] theorem sub_Unknown_NotKept : ld.pg.sub 66 187 = some false := rfl
@[simp] theorem isi_Unknown_NotTold (L : LH) (fs : List (Nat × D)) : isIC ld.pg.kit L (.exn 66 fs) [.own 193] = some false := rfl
@[simp] theorem sub_Unknown_NotTold : ld.pg.sub 66 193 = some false := rfl
@[simp] theorem isi_Unknown_OtherPlaces (L : LH) (fs : List (Nat × D)) : isIC ld.pg.kit L (.exn 66 fs) [.own 176] = some false := rfl
@[simp] theorem sub_Unknown_OtherPlaces : ld.pg.sub 66 176 = some false := rfl
@[simp] theorem isi_Unknown_Repeated (L : LH) (fs : List (Nat × D)) : isIC ld.pg.kit L (.exn 66 fs) [.own 164] = some false := rfl
@[simp] theorem sub_Unknown_Repeated : ld.pg.sub 66 164 = some false := rfl
@[simp] theorem isi_Unknown_Shared (L : LH) (fs : List (Nat × D)) : isIC ld.pg.kit L (.exn 66 fs) [.own 175] = some false := rfl
@[simp] theorem sub_Unknown_Shared : ld.pg.sub 66 175 = some false := rfl
@[simp] theorem isi_Unknown_TooFew (L : LH) (fs : List (Nat × D)) : isIC ld.pg.kit L (.exn 66 fs) [.own 181] = some false := rfl
@[simp] theorem sub_Unknown_TooFew : ld.pg.sub 66 181 = some false := rfl
@[simp] theorem isi_Unknown_TooMany (L : LH) (fs : List (Nat × D)) : isIC ld.pg.kit L (.exn 66 fs) [.own 179] = some false := rfl
@[simp] theorem sub_Unknown_TooMany : ld.pg.sub 66 179 = some false := rfl
@[simp] theorem isi_Unknown_Unknown (L : LH) (fs : List (Nat × D)) : isIC ld.pg.kit L (.exn 66 fs) [.own 66] = some true := rfl
@[simp] theorem sub_Unknown_Unknown : ld.pg.sub 66 66 = some true := rfl
@[simp] theorem isi_Unknown_ValueError (L : LH) (fs : List (Nat × D)) : isIC ld.pg.kit L (.exn 66 fs) [.ty "ValueError"] = some true := rfl
end Lw

set_option maxRecDepth 100000
set_option maxHeartbeats 4000000
namespace Lw
open PI PySem
def mixI (a b : Int) : Int :=
  let one := (a * 48271 + b * 69621 + 11) % 2147483647
  let two := (one * one + one * 40692 + b) % 2147483399
  let three := (two * two + two * 16807 + one) % 2147483629
  three * 2147483399 + two
theorem small_mod (x m : Int) (h : 0 < m ∧ m < 18446744073709551616) : -18446744073709551616 < x % m ∧ x % m < 18446744073709551616 := by
  have := Int.emod_nonneg x (b := m) (by omega)
  have := Int.emod_lt_of_pos x h.1
  omega
@[simp] theorem c_mix (k : Nat) (a b : Int) (L : LH) : call ld.pg false (k + 1) 1 [.val (.int a), .val (.int b)] L = .ok (.val (.int (mixI a b))) L := by
  have h6 : ∀ x y : Int, binV .mul false (.val (.int y)) (.val (.int (x % 2147483647))) L = .ok (.val (.int (y * (x % 2147483647)))) L := fun x y => b_mul L _ _ _ (small_mod _ _ (by decide))
  have h7 : ∀ x y : Int, binV .mul false (.val (.int y)) (.val (.int (x % 2147483399))) L = .ok (.val (.int (y * (x % 2147483399)))) L := fun x y => b_mul L _ _ _ (small_mod _ _ (by decide))
  rw [run__law_mix]
  simp [b__law_mix, BI.calm, mixI, h6, h7]
structure St where
  cells : List Int
  a : Nat
  b : Int
  c : Int
  d : Int
  e : Int
def St.o (s : St) : LO := .lst [.lst (s.cells.map D.int), .int (s.a : Nat), .int s.b, .int s.c, .int s.d, .int s.e]
def totL (t : Int) : List Int → Int
  | [] => t
  | v :: r => totL ((t * 65599 + v % 2147483629 + 1) % 2147483647) r
def st0 (ns : List Int) : St := ⟨ns, 0, 0, 0, 0, totL 5 ns⟩
theorem store_loop (K : Nat) (x : V2) (ds : List D) : ∀ (r acc : List Int) (t : Int) (c : Option V2), acc.length + r.length ≤ 63 →
    forGo (fun s' L' => execs (cl ld.pg false K) p__law_store_1 s' L') (.nm 3) none ds (r.map D.int) [some x, some (.ref 0), some (.val (.int t)), c] [.lst (acc.map D.int)] =
      .nx [some x, some (.ref 0), some (.val (.int (totL t r))), lastV D.int r c] [.lst ((acc ++ r).map D.int)]
  | [], acc, t, c, h => by simp [totL]
  | v :: r, acc, t, c, h => by
    simp only [List.length_cons] at h
    have hl : acc.length < 16777216 := by omega
    have tn : execs (cl ld.pg false K) p__law_store_1 [some x, some (.ref 0), some (.val (.int t)), some (.val (.int v))] [.lst (acc.map D.int)] = .nx [some x, some (.ref 0), some (.val (.int ((t * 65599 + v % 2147483629 + 1) % 2147483647))), some (.val (.int v))] [.lst ((acc ++ [v]).map D.int)] := by
      simp [p__law_store_1, BI.calm, hl]
    have ih := store_loop K x ds r (acc ++ [v]) ((t * 65599 + v % 2147483629 + 1) % 2147483647) (some (.val (.int v))) (by simp; omega)
    rw [List.map_cons, for_1]
    simp only [List.set]
    rw [tn, RS.turn_nx, ih]
    simp [totL]
theorem c_store (k : Nat) (ns : List Int) (hn : ns.length ≤ 63) : call ld.pg false (k + 1) 2 [.val (.lst (ns.map D.int))] [] = .ok (.ref 0) [(st0 ns).o] := by
  have lp := store_loop k (.val (.lst (ns.map D.int))) (ns.map D.int) ns [] 5 none (by simp; omega)
  have hc : cutD (ns.map D.int) none (some 63) = ns.map D.int := by
    rw [cut_hi _ _ (by decide)]
    exact List.take_of_length_le (by simp; omega)
  simp only [List.map_nil, List.nil_append] at lp
  have hl : ns.length ≤ 16777216 := by omega
  rw [run__law_store]
  simp [b__law_store, hc, newLt_ok, newLf_ok, hl, lp, frzSlot, st0, St.o]
def St.tk (s : St) (m : Int) : Nat := (if m ≤ 1 then 0 else if 0 < s.b then s.b % m else if (s.cells.length : Int) ≤ s.a then mixI s.e (s.d + 1) % m else
  if 1000000000000000000 ≤ s.cells.getD s.a 0 then s.cells.getD s.a 0 % m else mixI (s.cells.getD s.a 0) (s.d + 1) % m).toNat
def St.nx (s : St) (m : Int) : St := if m ≤ 1 then s else if 0 < s.b then { s with b := s.b / m, d := s.d + 1 } else if (s.cells.length : Int) ≤ s.a then { s with d := s.d + 1 } else
  if 1000000000000000000 ≤ s.cells.getD s.a 0 then { s with a := s.a + 1, b := s.cells.getD s.a 0 / m, d := s.d + 1 } else if 4 ≤ s.c + 1 then { s with a := s.a + 1, c := 0, d := s.d + 1 } else { s with c := s.c + 1, d := s.d + 1 }
theorem tk_lt (s : St) (m : Int) (h : 0 < m) : (s.tk m : Int) < m := by
  have r : ∀ x : Int, (x % m).toNat < m := fun x => by
    have := Int.emod_lt_of_pos x h
    omega
  unfold St.tk
  split
  · simpa using h
  · repeat (first | exact r _ | split)
theorem tk_lt' (s : St) (m : Nat) (h : 0 < m) : s.tk m < m := by
  have := tk_lt s m (by omega)
  omega
@[simp] theorem c_take (k : Nat) (s : St) (m : Int) (R : LH) (hM : smallM m = true) : call ld.pg false (k + 2) 3 [.ref 0, .val (.int m)] (s.o :: R) = .ok (.val (.int (s.tk m : Nat))) ((s.nx m).o :: R) := by
  have hm : m < 1073741824 := of_decide_eq_true hM
  rw [run__law_take]
  by_cases h1 : m ≤ 1
  · simp [b__law_take, brP_pos, h1, St.tk, St.nx]
  · have hd : 0 < m ∧ m < 1073741824 := by omega
    have hd0 : 0 < m := hd.1
    have cast : ∀ x : Int, (((x % m).toNat : Nat) : Int) = x % m := fun x => by
      have := Int.emod_nonneg x (b := m) (by omega)
      omega
    have g : ∀ (x : Int), St.tk s m = (x % m).toNat → (D.int (s.tk m : Nat)) = .int (x % m) := fun x h => by rw [h, cast]
    have x0 : (6 : Nat) = 6 := rfl
    have i1 : L2.ixN 6 1 = some 1 := rfl
    have i2 : L2.ixN 6 2 = some 2 := rfl
    have i3 : L2.ixN 6 3 = some 3 := rfl
    have i4 : L2.ixN 6 4 = some 4 := rfl
    by_cases h2 : 0 < s.b
    · have e1 : s.tk m = (s.b % m).toNat := by simp [St.tk, h1, h2]
      have e2 : s.nx m = { s with b := s.b / m, d := s.d + 1 } := by simp [St.nx, h1, h2]
      rw [g _ e1, e2]
      simp [b__law_take, BI.calm, brP_pos, brP_neg, h1, h2, hd, hd0, St.o, i1, i2, i3, i4]
    · by_cases h3 : (s.cells.length : Int) ≤ s.a
      · have e1 : s.tk m = (mixI s.e (s.d + 1) % m).toNat := by simp only [St.tk, if_neg h1, if_neg h2, if_pos h3]
        have e2 : s.nx m = { s with d := s.d + 1 } := by simp only [St.nx, if_neg h1, if_neg h2, if_pos h3]
        rw [g _ e1, e2]
        simp [b__law_take, BI.calm, brP_pos, brP_neg, h1, h2, h3, hd, hd0, St.o, i1, i2, i3, i4]
      · have hlt : s.a < s.cells.length := by omega
        obtain ⟨v, hv⟩ : ∃ v, s.cells[s.a]? = some v := ⟨_, List.getElem?_eq_getElem hlt⟩
        have hg : s.cells.getD s.a 0 = v := by rw [List.getD_eq_getElem?_getD, hv]; rfl
        by_cases h4 : 1000000000000000000 ≤ v
        · have e1 : s.tk m = (v % m).toNat := by simp only [St.tk, if_neg h1, if_neg h2, if_neg h3, hg, if_pos h4]
          have e2 : s.nx m = { s with a := s.a + 1, b := v / m, d := s.d + 1 } := by simp only [St.nx, if_neg h1, if_neg h2, if_neg h3, hg, if_pos h4]
          rw [g _ e1, e2]
          simp [b__law_take, BI.calm, brP_pos, brP_neg, h1, h2, h3, h4, hv, hd, hd0, St.o, i1, i2, i3, i4, binV, binInt, powOk]
        · have e1 : s.tk m = (mixI v (s.d + 1) % m).toNat := by simp only [St.tk, if_neg h1, if_neg h2, if_neg h3, hg, if_neg h4]
          by_cases h5 : 4 ≤ s.c + 1
          · have e2 : s.nx m = { s with a := s.a + 1, c := 0, d := s.d + 1 } := by simp only [St.nx, if_neg h1, if_neg h2, if_neg h3, hg, if_neg h4, if_pos h5]
            rw [g _ e1, e2]
            simp [b__law_take, BI.calm, brP_pos, brP_neg, h1, h2, h3, h4, h5, hv, hd, hd0, St.o, i1, i2, i3, i4, binV, binInt, powOk]
          · have e2 : s.nx m = { s with c := s.c + 1, d := s.d + 1 } := by simp only [St.nx, if_neg h1, if_neg h2, if_neg h3, hg, if_neg h4, if_neg h5]
            rw [g _ e1, e2]
            simp [b__law_take, BI.calm, brP_pos, brP_neg, h1, h2, h3, h4, h5, hv, hd, hd0, St.o, i1, i2, i3, i4, binV, binInt, powOk]
def St.pk {α : Type} (s : St) (xs : List α) (d : α) : α := xs.getD (s.tk xs.length) d
theorem pk_get {α : Type} (s : St) (xs : List α) (d : α) (h : xs ≠ []) : xs[s.tk xs.length]? = some (s.pk xs d) := by
  have hl := tk_lt' s xs.length (List.length_pos_iff.mpr h)
  unfold St.pk
  rw [List.getD_eq_getElem?_getD, List.getElem?_eq_getElem hl]
  rfl
theorem pk_mem {α : Type} (s : St) (xs : List α) (d : α) (h : xs ≠ []) : s.pk xs d ∈ xs := List.mem_of_getElem? (pk_get s xs d h)
@[simp] theorem pick_s (k : Nat) (s : St) (w : List Nat) (R : LH) (h : w ≠ []) (hl : w.length ≤ 1000000000) :
    call ld.pg false (k + 3) 4 [.ref 0, .val (.str w)] (s.o :: R) = .ok (.val (.str [s.pk w 0])) ((s.nx w.length).o :: R) := by
  have hm : smallM (w.length : Int) = true := smallM_of (by omega)
  rw [run__law_pick]
  simp [b__law_pick, BI.calm, hm, pk_get s w 0 h]
theorem pick_l (k : Nat) (s : St) (ds : List D) (R : LH) (h : ds ≠ []) (hl : ds.length ≤ 1000000000) :
    call ld.pg false (k + 3) 4 [.ref 0, .val (.lst ds)] (s.o :: R) = .ok (.val (s.pk ds .non)) ((s.nx ds.length).o :: R) := by
  have hm : smallM (ds.length : Int) = true := smallM_of (by omega)
  rw [run__law_pick]
  simp [b__law_pick, BI.calm, hm, pk_get s ds .non h]
theorem pick_t (k : Nat) (s : St) (ds : List D) (R : LH) (h : ds ≠ []) (hl : ds.length ≤ 1000000000) :
    call ld.pg false (k + 3) 4 [.ref 0, .val (.tup ds)] (s.o :: R) = .ok (.val (s.pk ds .non)) ((s.nx ds.length).o :: R) := by
  have hm : smallM (ds.length : Int) = true := smallM_of (by omega)
  rw [run__law_pick]
  simp [b__law_pick, BI.calm, hm, pk_get s ds .non h]
theorem pick_r (k : Nat) (s : St) (ds : List D) (R : LH) (j : Nat) (hr : R[j]? = some (.lst ds)) (h : ds ≠ []) (hl : ds.length ≤ 1000000000) :
    call ld.pg false (k + 3) 4 [.ref 0, .ref (j + 1)] (s.o :: R) = .ok (.val (s.pk ds .non)) ((s.nx ds.length).o :: R) := by
  have hm : smallM (ds.length : Int) = true := smallM_of (by omega)
  rw [run__law_pick]
  simp [b__law_pick, BI.calm, hm, hr, pk_get s ds .non h]
theorem pk_map {α β : Type} (s : St) (f : α → β) (xs : List α) (d : α) (e : β) (h : xs ≠ []) : s.pk (xs.map f) e = f (s.pk xs d) := by
  have h1 := pk_get s xs d h
  have h2 := pk_get s (xs.map f) e (by simpa using h)
  rw [List.length_map, List.getElem?_map, h1] at h2
  exact (Option.some.inj h2).symm
@[simp] theorem c_chance (k : Nat) (s : St) (m : Int) (R : LH) (hm : smallM m = true) : call ld.pg false (k + 3) 31 [.ref 0, .val (.int m)] (s.o :: R) = .ok (.val (.bl (decide (s.tk m = 0)))) ((s.nx m).o :: R) := by
  rw [run__law_chance]
  simp [b__law_chance, hm]
def St.mn (s : St) (l b : Int) : Int := if s.tk 6 = 0 ∨ b ≤ l then l else if s.tk 6 = 1 then b else if s.tk 6 = 2 then l + 1 else l + (s.nx 6).tk (b - l + 1)
def St.mnS (s : St) (l b : Int) : St := if s.tk 6 = 0 ∨ b ≤ l then s.nx 6 else if s.tk 6 = 1 then s.nx 6 else if s.tk 6 = 2 then s.nx 6 else (s.nx 6).nx (b - l + 1)
theorem mn_le (s : St) (l b : Int) : l ≤ s.mn l b ∧ (s.mn l b ≤ b ∨ s.mn l b = l) := by
  unfold St.mn
  split
  · exact ⟨Int.le_refl _, .inr rfl⟩
  · split
    · omega
    · split
      · omega
      · have := tk_lt (s.nx 6) (b - l + 1) (by omega)
        omega
@[simp] theorem c_many (k : Nat) (s : St) (l b : Int) (R : LH) (hb : smallM (b - l + 1) = true) : call ld.pg false (k + 3) 5 [.ref 0, .val (.int l), .val (.int b)] (s.o :: R) = .ok (.val (.int (s.mn l b))) ((s.mnS l b).o :: R) := by
  rw [run__law_many]
  by_cases h1 : s.tk 6 = 0
  · simp [b__law_many, h1, brP_pos, St.mn, St.mnS]
  · have h1' : ¬ ((s.tk 6 : Nat) : Int) = 0 := by omega
    by_cases h2 : b ≤ l
    · simp [b__law_many, h1, h2, brP_pos, St.mn, St.mnS]
    · by_cases h3 : s.tk 6 = 1
      · simp [b__law_many, h2, h3, brP_pos, brP_neg, St.mn, St.mnS]
      · have h3' : ¬ ((s.tk 6 : Nat) : Int) = 1 := by omega
        by_cases h4 : s.tk 6 = 2
        · simp [b__law_many, h2, h4, brP_pos, brP_neg, St.mn, St.mnS]
        · have h4' : ¬ ((s.tk 6 : Nat) : Int) = 2 := by omega
          simp [b__law_many, h1, h2, h3, h4, h3', h4', hb, brP_pos, brP_neg, St.mn, St.mnS]
def lets : List Nat := [97, 98, 99, 100, 101, 102, 103, 104, 105, 106, 107, 108, 109, 110, 111, 112, 113, 114, 115, 116, 117, 118, 119, 120, 121, 122]
@[simp] theorem c_letters (hot : Bool) (k : Nat) (L : LH) : call ld.pg hot (k + 1) 7 [] L = .ok (.val (.str lets)) L := by
  rw [run__law_letters]
  simp [b__law_letters, lets]
def signs : List Nat := [32, 33, 34, 35, 36, 38, 39, 40, 41, 42, 43, 44, 45, 46, 47, 48, 49, 50, 51, 52, 53, 54, 55, 56, 57, 58, 59, 60, 61, 62, 63, 64, 65, 66, 67, 68, 69, 70, 71, 72, 73, 74, 75, 76, 77, 78, 79, 80, 81, 82, 83, 84, 85, 86, 87, 88, 89, 90, 91, 92, 93, 94, 95, 96, 123, 124, 125, 126]
@[simp] theorem c_signs (hot : Bool) (k : Nat) (L : LH) : call ld.pg hot (k + 1) 8 [] L = .ok (.val (.str signs)) L := by
  rw [run__law_signs]
  simp [b__law_signs, signs]
@[simp] theorem pick_lets (k : Nat) (s : St) (R : LH) : call ld.pg false (k + 3) 4 [.ref 0, .val (.str lets)] (s.o :: R) = .ok (.val (.str [s.pk lets 0])) ((s.nx 26).o :: R) := pick_s k s lets R (by decide) (by decide)
@[simp] theorem pick_signs (k : Nat) (s : St) (R : LH) : call ld.pg false (k + 3) 4 [.ref 0, .val (.str signs)] (s.o :: R) = .ok (.val (.str [s.pk signs 0])) ((s.nx 68).o :: R) := pick_s k s signs R (by decide) (by decide)
def nmL : Nat → St → List Nat → List Nat × St
  | 0, s, w => (w, s)
  | m + 1, s, w => nmL m (s.nx 26) (w ++ [s.pk lets 0])
def St.nm (s : St) : List Nat := (nmL (s.mn 1 6).toNat (s.mnS 1 6) []).1
def St.nmS (s : St) : St := (nmL (s.mn 1 6).toNat (s.mnS 1 6) []).2
theorem name_loop (K : Nat) (R : LH) (ds : List D) : ∀ (m i : Nat) (s : St) (w : List Nat) (c : Option V2), w.length + m ≤ 100 →
    forGo (fun s' L' => execs (cl ld.pg false (K + 3)) p__law_name_1 s' L') (.nm 2) none ds (iup i m) [some (.ref 0), some (.val (.str w)), c] (s.o :: R) =
      .nx [some (.ref 0), some (.val (.str (nmL m s w).1)), if m = 0 then c else some (.val (.int ((i + m - 1 : Nat) : Int)))] ((nmL m s w).2.o :: R)
  | 0, i, s, w, c, h => by simp [nmL]
  | m + 1, i, s, w, c, h => by
    have hl : w.length + 1 ≤ 16777216 := by omega
    have tn : ∀ v, execs (cl ld.pg false (K + 3)) p__law_name_1 [some (.ref 0), some (.val (.str w)), v] (s.o :: R) = .nx [some (.ref 0), some (.val (.str (w ++ [s.pk lets 0]))), v] ((s.nx 26).o :: R) := by
      intro v
      simp [p__law_name_1, hl]
    rw [iup_s, for_1]
    simp only [List.set]
    rw [tn, RS.turn_nx, name_loop K R ds m (i + 1) _ _ _ (by simp; omega)]
    simp only [nmL]
    congr 3
    by_cases z : m = 0
    · simp [z]
    · simp only [z, if_false, show m + 1 ≠ 0 by omega]
      congr 4
      omega
@[simp] theorem c_name (k : Nat) (s : St) (R : LH) : call ld.pg false (k + 4) 9 [.ref 0] (s.o :: R) = .ok (.val (.str s.nm)) (s.nmS.o :: R) := by
  have hm := mn_le s 1 6
  have lp := name_loop k R (iup 0 (s.mn 1 6).toNat) (s.mn 1 6).toNat 0 (s.mnS 1 6) [] none (by simp; omega)
  have h1 : smallI (s.mn 1 6) = true := small_of (by omega)
  rw [run__law_name]
  simp [b__law_name, h1, lp, St.nm, St.nmS]
theorem nmL_ok : ∀ (m : Nat) (s : St) (w : List Nat), (nmL m s w).1.length = w.length + m ∧ ((∀ c ∈ w, c ∈ lets) → ∀ c ∈ (nmL m s w).1, c ∈ lets)
  | 0, s, w => ⟨rfl, fun h => h⟩
  | m + 1, s, w => by
    obtain ⟨h1, h2⟩ := nmL_ok m (s.nx 26) (w ++ [s.pk lets 0])
    refine ⟨by simp only [nmL, h1, List.length_append, List.length_cons, List.length_nil]; omega, fun h => h2 fun c hc => ?_⟩
    rcases List.mem_append.mp hc with z | z
    · exact h c z
    · rw [List.mem_singleton.mp z]
      exact pk_mem s lets 0 (by decide)
theorem nm_ok (s : St) : 1 ≤ s.nm.length ∧ s.nm.length ≤ 6 ∧ ∀ c ∈ s.nm, c ∈ lets := by
  obtain ⟨h1, h2⟩ := nmL_ok (s.mn 1 6).toNat (s.mnS 1 6) []
  have := mn_le s 1 6
  refine ⟨?_, ?_, h2 (by simp)⟩
  · show 1 ≤ (nmL _ _ _).1.length
    rw [h1]
    simp
    omega
  · show (nmL _ _ _).1.length ≤ 6
    rw [h1]
    simp
    omega
def plc (w : List Nat) : Bool := decide (1 ≤ w.length) && decide (w.length ≤ 6) && w.all fun c => decide (c ∈ lets)
theorem plc_nm (s : St) : plc s.nm = true := by
  obtain ⟨h1, h2, h3⟩ := nm_ok s
  simp only [plc, h1, h2, decide_true, Bool.true_and, List.all_eq_true, decide_eq_true_eq]
  exact h3
theorem len_le (n : Nat) (k : Nat) : decide ((n : Int) ≤ (k : Nat)) = decide (n ≤ k) := by
  by_cases h : n ≤ k
  · simp [h]
  · simp [h]
theorem isp_loop (K : Nat) (hot : Bool) (L : LH) (ds : List D) (x : V2) : ∀ (r : List Nat) (c : Option V2),
    forGo (fun s' L' => execs (cl ld.pg false (K + 1)) p__law_is_place_1 s' L') (.nm 1) none ds (r.map fun c => .str [c]) [some x, c] L =
      if r.all (fun c => decide (c ∈ lets)) then .nx [some x, lastV (fun c => .str [c]) r c] L else .rt (.val (.bl false)) L
  | [], c => by simp
  | a :: r, c => by
    have tn : execs (cl ld.pg false (K + 1)) p__law_is_place_1 [some x, some (.val (.str [a]))] L = if a ∈ lets then .nx [some x, some (.val (.str [a]))] L else .rt (.val (.bl false)) L := by
      by_cases h : a ∈ lets
      · simp [p__law_is_place_1, brP_neg, brP_pos, h]
      · simp [p__law_is_place_1, brP_neg, brP_pos, h]
    rw [List.map_cons, for_1]
    simp only [List.set]
    rw [tn]
    by_cases h : a ∈ lets
    · simp only [if_pos h, RS.turn_nx]
      rw [isp_loop K hot L ds x r]
      simp [h]
    · simp [h]
@[simp] theorem c_isp (k : Nat) (w : List Nat) (L : LH) : call ld.pg false (k + 2) 35 [.val (.str w)] L = .ok (.val (.bl (plc w))) L := by
  have e : isIC ld.pg.kit L (.val (.str w)) [.ty "str"] = some true := rfl
  have lp := isp_loop k false L (w.map fun c => .str [c]) (.val (.str w)) w none
  rw [run__law_is_place]
  by_cases h1 : 1 ≤ w.length
  · have h1' : (1 : Int) ≤ (w.length : Int) := by omega
    by_cases h2 : w.length ≤ 6
    · have h2' : (w.length : Int) ≤ 6 := by omega
      by_cases h3 : w.all (fun c => decide (c ∈ lets))
      · rw [if_pos h3] at lp
        simp [b__law_is_place, e, h1', h2', brP_neg, lp, plc, h1, h2]
        simpa using h3
      · rw [if_neg h3] at lp
        simp [b__law_is_place, e, h1', h2', brP_neg, lp, plc, h1, h2]
        simpa using h3
    · have h2' : ¬ (w.length : Int) ≤ 6 := by omega
      simp [b__law_is_place, e, h1', h2', brP_neg, plc, h1, h2]
  · have h1' : ¬ (1 : Int) ≤ (w.length : Int) := by omega
    simp [b__law_is_place, e, h1', brP_neg, plc, h1]
@[simp] theorem c_place (k : Nat) (w : List Nat) (L : LH) : call ld.pg false (k + 1) 0 [.val (.str w)] L = .ok (.val (.bl (plc w))) L := by
  have g15 : ld.pg.glob 15 = .int 6 := rfl
  have g16 : ld.pg.glob 16 = .str lets := rfl
  rw [run_is_place]
  by_cases h1 : 1 ≤ w.length
  · have h1' : ¬ (w.length : Int) < 1 := by omega
    by_cases h2 : w.length ≤ 6
    · have h2' : ¬ 6 < (w.length : Int) := by omega
      have cf := comp_fm (F := turnF (cl ld.pg false k) [] p_is_place_1) (i := 1) (sl := [some (.val (.str w)), none]) (src := none) w (fun c => .str [c]) (L := L) (fun c => some (.bl (decide (c ∈ lets)))) trivial (by omega) (fun c _ => by simp [p_is_place_1, g16]) false
      have hl : w.length ≤ 16777216 := by omega
      have fm : w.filterMap (fun c => some (D.bl (decide (c ∈ lets)))) = (w.map fun c => decide (c ∈ lets)).map D.bl := by
        rw [List.filterMap_eq_map', List.map_map]
        rfl
      rw [fm] at cf
      simp [b_is_place, BI.calm, g15, h1', h2', brP_neg, cf, hl, plc, h1, h2, -List.map_map, List.all_map]
    · have h2' : 6 < (w.length : Int) := by omega
      simp [b_is_place, BI.calm, g15, h1', h2', brP_neg, plc, h1, h2]
  · have h1' : (w.length : Int) < 1 := by omega
    simp [b_is_place, BI.calm, g15, h1', brP_neg, plc, h1]
def nextC (c : Nat) : Nat := lets.getD ((Txt.find ⟨lets.toArray⟩ ⟨[c].toArray⟩ + 1) % 26).toNat 0
def nextW (w : List Nat) : List Nat := w.dropLast ++ [nextC (w.getLastD 0)]
def unl : Nat → List Nat → List (List Nat) → List Nat
  | 0, w, _ => w
  | n + 1, w, ws => if w ∈ ws then unl n (nextW w) ws else w
theorem unl_loop (K : Nat) (ds : List D) (x : V2) (ws : List (List Nat)) (L : LH) (hx : ∀ w : List Nat, cmpIn (.val (.str w)) x L = some (decide (w ∈ ws))) : ∀ (m i : Nat) (w : List Nat) (c : Option V2), 1 ≤ w.length → w.length ≤ 100 →
    ∃ c', forGo (fun s' L' => execs (cl ld.pg false K) p__law_unlike_1 s' L') (.nm 3) none ds (iup i m) [some (.val (.str w)), some x, some (.val (.str lets)), c] L = .nx [some (.val (.str (unl m w ws))), some x, some (.val (.str lets)), c'] L
  | 0, i, w, c, h, h' => ⟨c, by simp [unl]⟩
  | m + 1, i, w, c, h, h' => by
    rw [iup_s, for_1]
    simp only [List.set]
    by_cases hm : w ∈ ws
    · obtain ⟨a, ha⟩ : ∃ a, w.getLast? = some a := by
        cases hg : w.getLast? with
        | none => simp [List.getLast?_eq_none_iff] at hg; subst hg; simp at h
        | some a => exact ⟨a, rfl⟩
      have hd : w.getLastD 0 = a := by rw [List.getLastD_eq_getLast?, ha]; rfl
      have hq0 := Int.emod_nonneg (Txt.find ⟨lets.toArray⟩ ⟨[a].toArray⟩ + 1) (b := 26) (by decide)
      have hq1 := Int.emod_lt_of_pos (Txt.find ⟨lets.toArray⟩ ⟨[a].toArray⟩ + 1) (b := 26) (by decide)
      have hat : L2.atI lets ((Txt.find ⟨lets.toArray⟩ ⟨[a].toArray⟩ + 1) % 26) = some (nextC a) := by
        rw [atI_p _ _ hq0]
        unfold nextC
        rw [List.getD_eq_getElem?_getD, List.getElem?_eq_getElem (by show _ < 26; omega)]
        rfl
      have hlen : w.length - 1 + 1 ≤ 16777216 := by omega
      have tn : ∀ v, execs (cl ld.pg false K) p__law_unlike_1 [some (.val (.str w)), some x, some (.val (.str lets)), v] L = .nx [some (.val (.str (nextW w))), some x, some (.val (.str lets)), v] L := by
        intro v
        simp [p__law_unlike_1, BI.calm, hx, hm, brP_neg, ha, cut_last, hat, hlen, nextW, hd]
      rw [tn, RS.turn_nx]
      obtain ⟨c', e⟩ := unl_loop K ds x ws L hx m (i + 1) (nextW w) (some (.val (.int i))) (by simp [nextW]) (by simp [nextW]; omega)
      exact ⟨c', by rw [e]; simp [unl, hm]⟩
    · have tn : ∀ v, execs (cl ld.pg false K) p__law_unlike_1 [some (.val (.str w)), some x, some (.val (.str lets)), v] L = .bk [some (.val (.str w)), some x, some (.val (.str lets)), v] L := by
        intro v
        simp [p__law_unlike_1, BI.calm, hx, hm, brP_pos]
      rw [tn]
      exact ⟨_, by simp [unl, hm]; rfl⟩
theorem c_unlike (k : Nat) (w : List Nat) (x : V2) (ws : List (List Nat)) (L : LH) (hx : ∀ w : List Nat, cmpIn (.val (.str w)) x L = some (decide (w ∈ ws))) (h : 1 ≤ w.length) (h' : w.length ≤ 100) :
    call ld.pg false (k + 2) 36 [.val (.str w), x] L = .ok (.val (.str (unl 26 w ws))) L := by
  obtain ⟨c, e⟩ := unl_loop (k + 1) (iup 0 26) x ws L hx 26 0 w none h h'
  rw [run__law_unlike]
  simp [b__law_unlike, e]
theorem unl_len (ws : List (List Nat)) : ∀ (m : Nat) (w : List Nat), 1 ≤ w.length → (unl m w ws).length = w.length
  | 0, w, h => rfl
  | m + 1, w, h => by
    simp only [unl]
    split
    · rw [unl_len ws m _ (by simp [nextW])]
      simp [nextW]
      omega
    · rfl
theorem rep_len (s : List Nat) (m : Nat) : (rep s (m : Int)).length = m * s.length := by
  unfold rep
  simp
def badW (w : List Nat) (kind at_ c q : Nat) : List Nat := if kind = 0 then [] else if kind = 1 then (rep w 12).take (7 + q) else if kind = 2 then w.take at_ ++ upper [w.getD at_ 0] ++ w.drop (at_ + 1)
  else if kind = 3 then (if q = 0 then 32 :: w else w ++ [32]) else if kind = 4 then w.take at_ ++ [c] ++ w.drop (at_ + 1) else w.take at_ ++ [c] ++ w.drop at_
def badQ (s : St) (kind : Nat) : Nat := if kind = 1 then s.tk 6 else s.tk 2
def badT (s : St) (kind : Nat) : St := if kind = 1 then s.nx 6 else if kind = 3 then s.nx 2 else s
def St.bad1 (s : St) : St := s.nmS.nx 6
def St.bad2 (s : St) : St := s.bad1.nx s.nm.length
def St.bad (s : St) : List Nat := badW s.nm (s.nmS.tk 6) (s.bad1.tk s.nm.length) (s.bad2.pk signs 0) (badQ (s.bad2.nx 68) (s.nmS.tk 6))
def St.badS (s : St) : St := badT (s.bad2.nx 68) (s.nmS.tk 6)
theorem rep12 (w : List Nat) : (rep w 12).length = 12 * w.length := rep_len w 12
theorem lets_lt : ∀ c ∈ lets, c < 128 := by decide
@[simp] theorem upper_len (w : List Nat) : (upper w).length = w.length := by simp [upper]
@[simp] theorem c_bad (k : Nat) (s : St) (R : LH) : call ld.pg false (k + 5) 10 [.ref 0] (s.o :: R) = .ok (.val (.str s.bad)) (s.badS.o :: R) := by
  obtain ⟨w0, w1, w2⟩ := nm_ok s
  have hm : smallM (s.nm.length : Int) = true := smallM_of (by omega)
  have ha := tk_lt' s.bad1 s.nm.length (by omega)
  rw [run__law_bad_place]
  unfold St.bad St.badS
  generalize hk : s.nmS.tk 6 = kind
  have e1 : s.nmS.nx 6 = s.bad1 := rfl
  have e2 : s.bad1.nx s.nm.length = s.bad2 := rfl
  have n2 : ∀ (x y : List Nat) (L : LH), x.length ≤ 100 → y.length ≤ 100 → newS (x ++ y) L = .ok (.val (.str (x ++ y))) L := fun x y L h1 h2 => newS_ok _ _ (by simp; omega)
  have n3 : ∀ L : LH, newS (32 :: s.nm) L = .ok (.val (.str (32 :: s.nm))) L := fun L => newS_ok _ _ (by simp; omega)
  have n4 : ∀ L : LH, newS (s.nm ++ [32]) L = .ok (.val (.str (s.nm ++ [32]))) L := fun L => newS_ok _ _ (by simp; omega)
  have n5 : ∀ (c : Nat) (L : LH), newS (s.nm.take (s.bad1.tk s.nm.length) ++ [c]) L = .ok (.val (.str (s.nm.take (s.bad1.tk s.nm.length) ++ [c]))) L := fun c L => newS_ok _ _ (by simp; omega)
  have n6 : ∀ (c : Nat) (L : LH), newS (s.nm.take (s.bad1.tk s.nm.length) ++ [c] ++ s.nm.drop (s.bad1.tk s.nm.length)) L = .ok (.val (.str (s.nm.take (s.bad1.tk s.nm.length) ++ [c] ++ s.nm.drop (s.bad1.tk s.nm.length)))) L := fun c L => newS_ok _ _ (by simp; omega)
  have n7 : ∀ (c : Nat) (L : LH), newS (s.nm.take (s.bad1.tk s.nm.length) ++ [c] ++ s.nm.drop (s.bad1.tk s.nm.length + 1)) L = .ok (.val (.str (s.nm.take (s.bad1.tk s.nm.length) ++ [c] ++ s.nm.drop (s.bad1.tk s.nm.length + 1)))) L := fun c L => newS_ok _ _ (by simp; omega)
  by_cases h0 : kind = 0
  · simp [b__law_bad_place, hk, e1, e2, hm, h0, badW, badT, brP_pos]
  · by_cases h1 : kind = 1
    · subst h1
      have c5 : ∀ (x : List Nat) (q : Nat), cutD x none (some (7 + (q : Int))) = x.take (7 + q) := fun x q => cut_lit _ _ _ (by omega)
      have r1 : (rep s.nm 12).length ≤ 16777216 := by
        rw [rep12]
        omega
      have k12 : kOk 12 = true := rfl
      simp [b__law_bad_place, hk, e1, e2, hm, badW, badT, badQ, c5, r1, k12, brP_pos, brP_neg]
    · by_cases h2 : kind = 2
      · subst h2
        have hg : s.nm[s.bad1.tk s.nm.length]? = some (s.nm.getD (s.bad1.tk s.nm.length) 0) := by
          rw [List.getD_eq_getElem?_getD, List.getElem?_eq_getElem ha]
          rfl
        have hc : s.nm.getD (s.bad1.tk s.nm.length) 0 < 128 := lets_lt _ (w2 _ (List.mem_of_getElem? hg))
        have hu : ∀ c, upper [c] = [(upper [c]).getD 0 0] := fun c => rfl
        have n8 : ∀ (c : Nat) (L : LH), newS (s.nm.take (s.bad1.tk s.nm.length) ++ upper [c]) L = .ok (.val (.str (s.nm.take (s.bad1.tk s.nm.length) ++ upper [c]))) L := fun c L => by
          rw [hu]
          exact n5 _ _
        have n9 : ∀ (c : Nat) (L : LH), newS (s.nm.take (s.bad1.tk s.nm.length) ++ upper [c] ++ s.nm.drop (s.bad1.tk s.nm.length + 1)) L = .ok (.val (.str (s.nm.take (s.bad1.tk s.nm.length) ++ upper [c] ++ s.nm.drop (s.bad1.tk s.nm.length + 1)))) L := fun c L => by
          rw [hu]
          exact n7 _ _
        simp [b__law_bad_place, hk, e1, e2, hm, badW, badT, badQ, hg, hc, -List.getD_eq_getElem?_getD, -List.append_assoc, brP_pos, brP_neg, n8, n9]
      · by_cases h3 : kind = 3
        · subst h3
          have hq := tk_lt (s.bad2.nx 68) 2 (by decide)
          have hq' : (s.bad2.nx 68).tk 2 = 0 ∨ (s.bad2.nx 68).tk 2 = 1 := by omega
          rcases hq' with q | q <;> simp [b__law_bad_place, hk, e1, e2, hm, badW, badT, badQ, q, brP_pos, brP_neg, n3, n4]
        · by_cases h4 : kind = 4
          · subst h4
            simp [b__law_bad_place, hk, e1, e2, hm, badW, badT, badQ, -List.append_assoc, brP_pos, brP_neg, n5, n7]
          · have k0 : ¬ (kind : Int) = 0 := by omega
            have k1 : ¬ (kind : Int) = 1 := by omega
            have k2 : ¬ (kind : Int) = 2 := by omega
            have k3 : ¬ (kind : Int) = 3 := by omega
            have k4 : ¬ (kind : Int) = 4 := by omega
            simp [b__law_bad_place, hk, e1, e2, hm, badW, badT, badQ, -List.append_assoc, brP_pos, brP_neg, h0, h1, h2, h3, h4, k0, k1, k2, k3, k4, n5, n6]
theorem bad_len (s : St) : s.bad.length ≤ 100 := by
  obtain ⟨w0, w1, w2⟩ := nm_ok s
  have r1 := rep12 s.nm
  unfold St.bad badW
  repeat' split
  all_goals simp
  all_goals omega
def rwL : Nat → St → List Nat → List Nat × St
  | 0, s, w => (w, s)
  | m + 1, s, w => rwL m (s.nx 94) (w ++ [s.pk (lets ++ signs) 0])
def St.raw (s : St) : List Nat := if s.tk 4 < 2 then (s.nx 4).nm else if s.tk 4 = 2 then (s.nx 4).bad else (rwL ((s.nx 4).mn 0 12).toNat ((s.nx 4).mnS 0 12) []).1
def St.rawS (s : St) : St := if s.tk 4 < 2 then (s.nx 4).nmS else if s.tk 4 = 2 then (s.nx 4).badS else (rwL ((s.nx 4).mn 0 12).toNat ((s.nx 4).mnS 0 12) []).2
theorem raw_loop (K : Nat) (R : LH) (ds : List D) (x : Option V2) : ∀ (m i : Nat) (s : St) (w : List Nat) (c : Option V2), w.length + m ≤ 100 →
    ∃ c', forGo (fun s' L' => execs (cl ld.pg false (K + 3)) p__law_raw_place_1 s' L') (.nm 4) none ds (iup i m) [some (.ref 0), x, some (.val (.str (lets ++ signs))), some (.val (.str w)), c] (s.o :: R) =
      .nx [some (.ref 0), x, some (.val (.str (lets ++ signs))), some (.val (.str (rwL m s w).1)), c'] ((rwL m s w).2.o :: R)
  | 0, i, s, w, c, h => ⟨c, by simp [rwL]⟩
  | m + 1, i, s, w, c, h => by
    have hl : w.length + 1 ≤ 16777216 := by omega
    have hp := fun (R : LH) => pick_s K s (lets ++ signs) R (by decide) (by decide)
    have tn : ∀ v, execs (cl ld.pg false (K + 3)) p__law_raw_place_1 [some (.ref 0), x, some (.val (.str (lets ++ signs))), some (.val (.str w)), v] (s.o :: R) = .nx [some (.ref 0), x, some (.val (.str (lets ++ signs))), some (.val (.str (w ++ [s.pk (lets ++ signs) 0]))), v] ((s.nx 94).o :: R) := by
      intro v
      simp [p__law_raw_place_1, hl, hp]
      rfl
    rw [iup_s, for_1]
    simp only [List.set]
    rw [tn, RS.turn_nx]
    obtain ⟨c', e⟩ := raw_loop K R ds x m (i + 1) (s.nx 94) (w ++ [s.pk (lets ++ signs) 0]) (some (.val (.int i))) (by simp; omega)
    exact ⟨c', e⟩
theorem rwL_len : ∀ (m : Nat) (s : St) (w : List Nat), (rwL m s w).1.length = w.length + m
  | 0, s, w => rfl
  | m + 1, s, w => by
    simp only [rwL]
    rw [rwL_len m]
    simp
    omega
@[simp] theorem c_raw (k : Nat) (s : St) (R : LH) : call ld.pg false (k + 6) 11 [.ref 0] (s.o :: R) = .ok (.val (.str s.raw)) (s.rawS.o :: R) := by
  rw [run__law_raw_place]
  by_cases h0 : s.tk 4 < 2
  · have h0' : (s.tk 4 : Int) < 2 := by omega
    simp [b__law_raw_place, St.raw, St.rawS, h0, h0', brP_pos]
  · have h0' : ¬ (s.tk 4 : Int) < 2 := by omega
    by_cases h1 : s.tk 4 = 2
    · simp [b__law_raw_place, St.raw, St.rawS, h1, brP_pos, brP_neg]
    · have h1' : ¬ (s.tk 4 : Int) = 2 := by omega
      have hm := mn_le (s.nx 4) 0 12
      obtain ⟨c, e⟩ := raw_loop (k + 2) R (iup 0 ((s.nx 4).mn 0 12).toNat) (some (.val (.int (s.tk 4 : Nat)))) ((s.nx 4).mn 0 12).toNat 0 ((s.nx 4).mnS 0 12) [] none (by simp; omega)
      have h2 : smallI ((s.nx 4).mn 0 12) = true := small_of (by omega)
      have hl : ∀ L : LH, newS (lets ++ signs) L = .ok (.val (.str (lets ++ signs))) L := fun L => newS_ok _ _ (by decide)
      simp [b__law_raw_place, St.raw, St.rawS, h0, h0', h1, h1', brP_pos, brP_neg, e, h2, hl]
theorem raw_len (s : St) : s.raw.length ≤ 100 := by
  unfold St.raw
  split
  · have := nm_ok (s.nx 4); omega
  · split
    · exact bad_len _
    · rw [rwL_len]
      have := mn_le (s.nx 4) 0 12
      simp
      omega
def shL {α : Type} : Nat → St → List α → List α → List α × St
  | 0, s, r, a => (a, s)
  | m + 1, s, r, a => shL m (s.nx r.length) (r.eraseIdx (s.tk r.length)) (a ++ r[s.tk r.length]?.toList)
def St.shf {α : Type} (s : St) (r : List α) : List α := if s.tk 4 = 0 then r else if s.tk 4 = 1 then r.reverse else (shL r.length (s.nx 4) r []).1
def St.shfS {α : Type} (s : St) (r : List α) : St := if s.tk 4 = 0 then s.nx 4 else if s.tk 4 = 1 then s.nx 4 else (shL r.length (s.nx 4) r []).2
theorem erase_map {α β : Type} (f : α → β) : ∀ (r : List α) (i : Nat), (r.map f).eraseIdx i = (r.eraseIdx i).map f
  | [], i => by simp
  | a :: r, 0 => by simp
  | a :: r, i + 1 => by simp [erase_map f r i]
theorem shL_map {α β : Type} (f : α → β) : ∀ (m : Nat) (s : St) (r a : List α), (shL m s (r.map f) (a.map f)) = ((shL m s r a).1.map f, (shL m s r a).2)
  | 0, s, r, a => rfl
  | m + 1, s, r, a => by
    simp only [shL, List.length_map]
    have e1 : (r.map f).eraseIdx (s.tk r.length) = (r.eraseIdx (s.tk r.length)).map f := erase_map f r _
    have e2 : a.map f ++ (r.map f)[s.tk r.length]?.toList = (a ++ r[s.tk r.length]?.toList).map f := by
      rw [List.getElem?_map]
      cases r[s.tk r.length]? <;> simp
    rw [e1, e2]
    exact shL_map f m _ _ _
@[simp] theorem shf_map {α β : Type} (f : α → β) (s : St) (r : List α) : s.shf (r.map f) = (s.shf r).map f := by
  unfold St.shf
  have := shL_map f r.length (s.nx 4) r []
  simp only [List.map_nil] at this
  simp only [List.length_map, this]
  split
  · rfl
  · split
    · simp
    · rfl
@[simp] theorem shfS_map {α β : Type} (f : α → β) (s : St) (r : List α) : s.shfS (r.map f) = s.shfS r := by
  unfold St.shfS
  have := shL_map f r.length (s.nx 4) r []
  simp only [List.map_nil] at this
  simp only [List.length_map, this]
theorem erase_perm {α : Type} : ∀ (r : List α) (i : Nat) (h : i < r.length), (r[i] :: r.eraseIdx i).Perm r
  | a :: r, 0, h => .refl _
  | a :: r, i + 1, h => by
    have ih := erase_perm r i (by simpa using h)
    simp only [List.getElem_cons_succ, List.eraseIdx_cons_succ]
    exact (List.Perm.swap ..).trans (ih.cons a)
theorem shL_perm {α : Type} : ∀ (m : Nat) (s : St) (r a : List α), r.length = m → (shL m s r a).1.Perm (a ++ r)
  | 0, s, r, a, h => by
    have : r = [] := List.length_eq_zero_iff.mp h
    subst this
    simp [shL]
  | m + 1, s, r, a, h => by
    have hk := tk_lt' s r.length (by omega)
    have hl : (r.eraseIdx (s.tk r.length)).length = m := by rw [List.length_eraseIdx_of_lt hk]; omega
    simp only [shL]
    refine (shL_perm m _ _ _ hl).trans ?_
    rw [List.getElem?_eq_getElem hk]
    simp only [Option.toList_some, List.append_assoc, List.singleton_append]
    exact (erase_perm r _ hk).append_left a
theorem shf_perm {α : Type} (s : St) (r : List α) : (s.shf r).Perm r := by
  unfold St.shf
  split
  · exact .refl _
  · split
    · exact r.reverse_perm
    · simpa using shL_perm r.length (s.nx 4) r [] rfl
@[simp] theorem shf_len {α : Type} (s : St) (r : List α) : (s.shf r).length = r.length := (shf_perm s r).length_eq
@[simp] theorem shf_mem {α : Type} (s : St) (r : List α) (x : α) : x ∈ s.shf r ↔ x ∈ r := (shf_perm s r).mem_iff
def wdN (kind at_ : Nat) (stem : List Nat) (i : Nat) (n : List Nat) : List Nat := if kind = 0 then n.take 1 else if kind = 1 then stem.take at_ ++ n.take 1 ++ stem.drop (at_ + 1) else if kind = 2 then (stem ++ n).take (1 + i % 6) else n
def wdL (kind at_ : Nat) (stem : List Nat) : Nat → Nat → St → List (List Nat) → List (List Nat) × St
  | 0, _, s, ws => (ws, s)
  | m + 1, i, s, ws => wdL kind at_ stem m (i + 1) s.nmS (ws ++ [unl 26 (wdN kind at_ stem i s.nm) ws])
theorem wdN_len (kind at_ : Nat) (stem : List Nat) (i : Nat) (n : List Nat) (h0 : 1 ≤ n.length) (h1 : n.length ≤ 6) (h2 : 1 ≤ stem.length) (h3 : stem.length ≤ 6) (h4 : at_ < stem.length) : 1 ≤ (wdN kind at_ stem i n).length ∧ (wdN kind at_ stem i n).length ≤ 6 := by
  unfold wdN
  split
  · simp; omega
  · split
    · simp; omega
    · split
      · simp; omega
      · exact ⟨h0, h1⟩
theorem in_srK (L : LH) (n : Nat) (ws : List (List Nat)) (h : L[n]? = some (.lst (ws.map D.str))) (w : List Nat) : cmpIn (.val (.str w)) (.ref n) L = some (decide (w ∈ ws)) := in_sr L n w ws h
theorem world_turn (K : Nat) (R : LH) (kind at_ : Nat) (stem : List Nat) (hs0 : 1 ≤ stem.length) (hs1 : stem.length ≤ 6) (hat : at_ < stem.length) (x y z : Option V2) (i : Nat) (s : St) (ws : List (List Nat)) (hw : ws.length < 16777216) (c : Option V2) :
    execs (cl ld.pg false (K + 4)) p__law_world_1 [some (.ref 0), x, y, z, some (.val (.int kind)), some (.val (.str stem)), some (.val (.int at_)), some (.ref (R.length + 1)), some (.val (.int i)), c] (s.o :: (R ++ [.lst (ws.map D.str)])) =
      .nx [some (.ref 0), x, y, z, some (.val (.int kind)), some (.val (.str stem)), some (.val (.int at_)), some (.ref (R.length + 1)), some (.val (.int i)), some (.val (.str (wdN kind at_ stem i s.nm)))] (s.nmS.o :: (R ++ [.lst ((ws ++ [unl 26 (wdN kind at_ stem i s.nm) ws]).map D.str)])) := by
  obtain ⟨w0, w1, _⟩ := nm_ok s
  have hwd := wdN_len kind at_ stem i s.nm w0 w1 hs0 hs1 hat
  have hu := c_unlike (K + 2) (wdN kind at_ stem i s.nm) (.ref (R.length + 1)) ws (s.nmS.o :: (R ++ [.lst (ws.map D.str)])) (in_srK _ _ ws (by simp)) hwd.1 (by omega)
  have n1 : ∀ L : LH, newS (stem.take at_ ++ s.nm.take 1) L = .ok (.val (.str (stem.take at_ ++ s.nm.take 1))) L := fun L => newS_ok _ _ (by simp; omega)
  have n2 : ∀ L : LH, newS (stem.take at_ ++ s.nm.take 1 ++ stem.drop (at_ + 1)) L = .ok (.val (.str (stem.take at_ ++ s.nm.take 1 ++ stem.drop (at_ + 1)))) L := fun L => newS_ok _ _ (by simp; omega)
  have n3 : ∀ L : LH, newS (stem ++ s.nm) L = .ok (.val (.str (stem ++ s.nm))) L := fun L => newS_ok _ _ (by simp; omega)
  have c6 : ∀ x : List Nat, cutD x none (some (1 + (i : Int) % 6)) = x.take (1 + i % 6) := fun x => cut_lit _ _ _ (by omega)
  generalize hW : unl 26 (wdN kind at_ stem i s.nm) ws = W at hu ⊢
  by_cases h0 : kind = 0
  · subst h0
    simp only [wdN, if_true] at hu ⊢
    simp [p__law_world_1, BI.calm, brP_pos, brP_neg, hu, hw]
  · have k0 : ¬ (kind : Int) = 0 := by omega
    by_cases h1 : kind = 1
    · subst h1
      simp only [wdN, if_true, if_neg h0] at hu ⊢
      simp [p__law_world_1, BI.calm, brP_pos, brP_neg, hu, hw, n1, n2, -List.append_assoc]
    · have k1 : ¬ (kind : Int) = 1 := by omega
      by_cases h2 : kind = 2
      · subst h2
        simp only [wdN, if_true, if_neg h0, if_neg h1] at hu ⊢
        simp [p__law_world_1, BI.calm, brP_pos, brP_neg, hu, hw, n3, c6]
      · have k2 : ¬ (kind : Int) = 2 := by omega
        simp only [wdN, if_neg h0, if_neg h1, if_neg h2] at hu ⊢
        simp [p__law_world_1, BI.calm, brP_pos, brP_neg, hu, hw, h0, h1, h2, k0, k1, k2]
theorem world_loop (B : Nat) (hB : B < 16777216) (K : Nat) (R : LH) (ds : List D) (kind at_ : Nat) (stem : List Nat) (hs0 : 1 ≤ stem.length) (hs1 : stem.length ≤ 6) (hat : at_ < stem.length) (x y z : Option V2) : ∀ (m i : Nat) (s : St) (ws : List (List Nat)) (c c' : Option V2), m + ws.length ≤ B →
    ∃ d d', forGo (fun s' L' => execs (cl ld.pg false (K + 4)) p__law_world_1 s' L') (.nm 8) none ds (iup i m) [some (.ref 0), x, y, z, some (.val (.int kind)), some (.val (.str stem)), some (.val (.int at_)), some (.ref (R.length + 1)), c, c'] (s.o :: (R ++ [.lst (ws.map D.str)])) =
      .nx [some (.ref 0), x, y, z, some (.val (.int kind)), some (.val (.str stem)), some (.val (.int at_)), some (.ref (R.length + 1)), d, d'] ((wdL kind at_ stem m i s ws).2.o :: (R ++ [.lst ((wdL kind at_ stem m i s ws).1.map D.str)]))
  | 0, i, s, ws, c, c', h => ⟨c, c', by simp [wdL]⟩
  | m + 1, i, s, ws, c, c', h => by
    rw [iup_s, for_1]
    simp only [List.set]
    rw [world_turn K R kind at_ stem hs0 hs1 hat x y z i s ws (by omega), RS.turn_nx]
    exact world_loop B hB K R ds kind at_ stem hs0 hs1 hat x y z m (i + 1) s.nmS _ _ _ (by simp; omega)
def St.wd1 (s : St) (l b : Int) : St := ((s.mnS l b).nx 4).nmS
def St.wdW (s : St) (l b : Int) : List (List Nat) × St := wdL ((s.mnS l b).tk 4) ((s.wd1 l b).tk ((s.mnS l b).nx 4).nm.length) ((s.mnS l b).nx 4).nm (s.mn l b).toNat 0 ((s.wd1 l b).nx ((s.mnS l b).nx 4).nm.length) []
def St.world (s : St) (l b : Int) : List (List Nat) := ssort (s.wdW l b).1
def St.worldS (s : St) (l b : Int) : St := (s.wdW l b).2
theorem wdL_len (kind at_ : Nat) (stem : List Nat) : ∀ (m i : Nat) (s : St) (ws : List (List Nat)), (wdL kind at_ stem m i s ws).1.length = ws.length + m
  | 0, i, s, ws => rfl
  | m + 1, i, s, ws => by
    simp only [wdL]
    rw [wdL_len kind at_ stem m]
    simp
    omega
theorem wdW_len (s : St) (l b : Int) : (s.wdW l b).1.length = (s.mn l b).toNat := by simp [St.wdW, wdL_len]
@[simp] theorem world_len (s : St) (l b : Int) : (s.world l b).length = (s.mn l b).toNat := by simp [St.world, wdW_len]
theorem c_world (k : Nat) (s : St) (l b : Int) (R : LH) (hl : 0 ≤ l ∧ l ≤ 1000) (hb : 0 ≤ b ∧ b ≤ 1000) : call ld.pg false (k + 5) 37 [.ref 0, .val (.int l), .val (.int b)] (s.o :: R) = .ok (.val (.tup ((s.world l b).map D.str))) ((s.worldS l b).o :: R) := by
  have hm := mn_le s l b
  have hM : smallM (b - l + 1) = true := smallM_of (by omega)
  obtain ⟨w0, w1, _⟩ := nm_ok ((s.mnS l b).nx 4)
  have hat := tk_lt' (s.wd1 l b) ((s.mnS l b).nx 4).nm.length (by omega)
  have h1 : smallI (s.mn l b) = true := small_of (by omega)
  have h2 : smallM (((s.mnS l b).nx 4).nm.length : Int) = true := smallM_of (by omega)
  have e1 : ((s.mnS l b).nx 4).nmS = s.wd1 l b := rfl
  obtain ⟨d, d', lp⟩ := world_loop 1000 (by decide) k R (iup 0 (s.mn l b).toNat) ((s.mnS l b).tk 4) ((s.wd1 l b).tk ((s.mnS l b).nx 4).nm.length) ((s.mnS l b).nx 4).nm w0 w1 hat (some (.val (.int l))) (some (.val (.int b))) (some (.val (.int (s.mn l b)))) (s.mn l b).toNat 0 ((s.wd1 l b).nx ((s.mnS l b).nx 4).nm.length) [] none none (by simp; omega)
  have hW : wdL ((s.mnS l b).tk 4) ((s.wd1 l b).tk ((s.mnS l b).nx 4).nm.length) ((s.mnS l b).nx 4).nm (s.mn l b).toNat 0 ((s.wd1 l b).nx ((s.mnS l b).nx 4).nm.length) [] = s.wdW l b := rfl
  rw [hW] at lp
  simp only [List.map_nil] at lp
  have hl : (s.mn l b).toNat ≤ 16777216 := by omega
  rw [run__law_world]
  simp [b__law_world, BI.calm, hM, h1, h2, e1, lp, hl, wdW_len, St.world, St.worldS]
@[simp] theorem c_world012 (k : Nat) (s : St) (R : LH) : call ld.pg false (k + 5) 37 [.ref 0, .val (.int 0), .val (.int 12)] (s.o :: R) = .ok (.val (.tup ((s.world 0 12).map D.str))) ((s.worldS 0 12).o :: R) := c_world k s 0 12 R (by decide) (by decide)
def crL (stem : List Nat) (one two : Nat) (m : Nat) : List (List Nat) := (List.range m).map fun i => stem ++ [lets.getD ((one + i / 26) % 26) 0] ++ [lets.getD ((two + i) % 26) 0]
def St.crowd (s : St) (m : Nat) : List (List Nat) := crL (s.nm.take 4) (s.nmS.tk 26) ((s.nmS.nx 26).tk 26) m
def St.crowdS (s : St) : St := (s.nmS.nx 26).nx 26
theorem lets_at (j : Nat) (h : j < 26) : lets[j]? = some (lets.getD j 0) := by
  rw [List.getD_eq_getElem?_getD, List.getElem?_eq_getElem (by show _ < 26; omega)]
  rfl
theorem crowd_loop (B : Nat) (hB : B < 16777216) (K : Nat) (R : LH) (ds : List D) (stem : List Nat) (hs : stem.length ≤ 6) (one two : Nat) (x y : Option V2) : ∀ (m i : Nat) (s : St) (ws : List (List Nat)) (c : Option V2), m + ws.length ≤ B →
    ∃ d, forGo (fun s' L' => execs (cl ld.pg false K) p__law_crowd_1 s' L') (.nm 7) none ds (iup i m) [x, y, some (.val (.str lets)), some (.val (.str stem)), some (.val (.int one)), some (.val (.int two)), some (.ref (R.length + 1)), c] (s.o :: (R ++ [.lst (ws.map D.str)])) =
      .nx [x, y, some (.val (.str lets)), some (.val (.str stem)), some (.val (.int one)), some (.val (.int two)), some (.ref (R.length + 1)), d] (s.o :: (R ++ [.lst ((ws ++ (List.range' i m).map fun i => stem ++ [lets.getD ((one + i / 26) % 26) 0] ++ [lets.getD ((two + i) % 26) 0]).map D.str)]))
  | 0, i, s, ws, c, h => ⟨c, by simp⟩
  | m + 1, i, s, ws, c, h => by
    have i1 : L2.atI lets (((one : Int) + (i : Int) / 26) % 26) = some (lets.getD ((one + i / 26) % 26) 0) := by
      rw [show ((one : Int) + (i : Int) / 26) % 26 = (((one + i / 26) % 26 : Nat) : Int) by omega, atI_n]
      exact lets_at _ (by omega)
    have i2 : L2.atI lets (((two : Int) + (i : Int)) % 26) = some (lets.getD ((two + i) % 26) 0) := by
      rw [show ((two : Int) + (i : Int)) % 26 = (((two + i) % 26 : Nat) : Int) by omega, atI_n]
      exact lets_at _ (by omega)
    have n1 : ∀ (c : Nat) (L : LH), newS (stem ++ [c]) L = .ok (.val (.str (stem ++ [c]))) L := fun c L => newS_ok _ _ (by simp; omega)
    have n2 : ∀ (c d : Nat) (L : LH), newS (stem ++ [c] ++ [d]) L = .ok (.val (.str (stem ++ [c] ++ [d]))) L := fun c d L => newS_ok _ _ (by simp; omega)
    have hl : ws.length < 16777216 := by omega
    have tn : execs (cl ld.pg false K) p__law_crowd_1 [x, y, some (.val (.str lets)), some (.val (.str stem)), some (.val (.int one)), some (.val (.int two)), some (.ref (R.length + 1)), some (.val (.int i))] (s.o :: (R ++ [.lst (ws.map D.str)])) =
      .nx [x, y, some (.val (.str lets)), some (.val (.str stem)), some (.val (.int one)), some (.val (.int two)), some (.ref (R.length + 1)), some (.val (.int i))] (s.o :: (R ++ [.lst ((ws ++ [stem ++ [lets.getD ((one + i / 26) % 26) 0] ++ [lets.getD ((two + i) % 26) 0]]).map D.str)])) := by
      simp [p__law_crowd_1, BI.calm, i1, i2, n1, n2, hl, -List.append_assoc, -List.getD_eq_getElem?_getD]
    rw [iup_s, for_1]
    simp only [List.set]
    rw [tn, RS.turn_nx]
    obtain ⟨d, e⟩ := crowd_loop B hB K R ds stem hs one two x y m (i + 1) s (ws ++ [stem ++ [lets.getD ((one + i / 26) % 26) 0] ++ [lets.getD ((two + i) % 26) 0]]) (some (.val (.int i))) (by simp; omega)
    exact ⟨d, by rw [e, List.range'_succ]; simp⟩
@[simp] theorem c_crowd40 (k : Nat) (s : St) (R : LH) : call ld.pg false (k + 5) 41 [.ref 0, .val (.int 40)] (s.o :: R) = .ok (.ref (R.length + 1)) (s.crowdS.o :: (R ++ [.lst ((s.crowd 40).map D.str)])) := by
  obtain ⟨d, lp⟩ := crowd_loop 1000 (by decide) (k + 4) R (iup 0 40) (s.nm.take 4) (by simp; omega) (s.nmS.tk 26) ((s.nmS.nx 26).tk 26) (some (.ref 0)) (some (.val (.int 40))) 40 0 s.crowdS [] none (by decide)
  have e40 : (40 : Int).toNat = 40 := rfl
  have eS : (s.nmS.nx 26).nx 26 = s.crowdS := rfl
  simp only [List.map_nil, List.nil_append] at lp
  rw [run__law_crowd]
  simp only [b__law_crowd] at *
  simp [eS, lp, St.crowd, crL, List.range_eq_range']
@[simp] theorem crowd_len (s : St) (m : Nat) : (s.crowd m).length = m := by simp [St.crowd, crL]
def dupA : List (List Nat) → List (List Nat) → Option (List Nat)
  | _, [] => none
  | a, w :: r => if w ∈ a then some w else dupA (a ++ [w]) r
def badA (ws : List (List Nat)) : Option (List Nat) := ws.find? fun w => !plc w
theorem dupA_none : ∀ (r a : List (List Nat)), a.Nodup → dupA a r = none → (a ++ r).Nodup
  | [], a, h, _ => by simpa using h
  | w :: r, a, h, e => by
    simp only [dupA] at e
    split at e
    · cases e
    · rename_i hw
      have := dupA_none r (a ++ [w]) (List.nodup_append.mpr ⟨h, by simp, by simp; exact fun x hx e => hw (e ▸ hx)⟩) e
      simpa using this
def tBadPlace : List Nat := [66, 97, 100, 80, 108, 97, 99, 101]
def tRepeated : List Nat := [82, 101, 112, 101, 97, 116, 101, 100]
def dueD (ws : List (List Nat)) : D := match badA ws with
  | some w => .tup [.str tBadPlace, .str w]
  | none => (match dupA [] ws with
    | some w => .tup [.str tRepeated, .str w]
    | none => .non)
theorem row_cut {L : LH} {ws : List (List Nat)} {x : V2} (hr : Row L (ws.map D.str) x) (hl : ws.length ≤ 10000) (k : Nat) : sliceV false x none (some (k : Int)) L = .ok (.val (.lst ((ws.take k).map D.str))) L ∨ sliceV false x none (some (k : Int)) L = .ok (.val (.tup ((ws.take k).map D.str))) L := by
  have h1 : (ws.take k).length ≤ 16777216 := by simp; omega
  cases hr with
  | lst => exact .inl (by rw [sl_l, cut_hin, ← List.map_take, newLf_ok _ _ (by simpa using h1)])
  | tup => exact .inr (by rw [sl_t, cut_hin, ← List.map_take])
  | ref n h => exact .inl (by rw [sl_r, h, lstO_l, sliceO_s, cut_hin, ← List.map_take, newLf_ok _ _ (by simpa using h1)])
theorem names_loop (K : Nat) (L : LH) (x : V2) (ds : List D) (src : Option Nat) (hs : srcOk src ds L) : ∀ (r : List (List Nat)) (c : Option V2),
    ∃ sl', forGo (fun s' L' => execs (cl ld.pg false (K + 1)) p_check_names_1 s' L') (.nm 1) src ds (r.map D.str) [some x, c] L = match badA r with
      | some w => .exc 46 [(169, .str w)] sl' L
      | none => .nx sl' L
  | [], c => ⟨_, by rw [List.map_nil, for_0s _ _ _ _ _ _ hs]; rfl⟩
  | w :: r, c => by
    rw [List.map_cons, for_1s _ _ _ _ _ _ _ _ hs]
    simp only [List.set]
    have ex : ld.pg.exc 46 = some (1, [(169, 1)]) := rfl
    by_cases h : plc w = true
    · have tn : execs (cl ld.pg false (K + 1)) p_check_names_1 [some x, some (.val (.str w))] L = .nx [some x, some (.val (.str w))] L := by simp [p_check_names_1, h]
      obtain ⟨sl', e⟩ := names_loop K L x ds src hs r (some (.val (.str w)))
      exact ⟨sl', by rw [tn, RS.turn_nx, e]; simp [badA, h]⟩
    · have h' : plc w = false := by simpa using h
      have tn : execs (cl ld.pg false (K + 1)) p_check_names_1 [some x, some (.val (.str w))] L = .exc 46 [(169, .str w)] [some x, some (.val (.str w))] L := by simp [p_check_names_1, h', ex, fldD]
      exact ⟨_, by rw [tn]; simp [badA, h']; rfl⟩
def namesR (ws : List (List Nat)) (L : LH) : R V2 := match badA ws with
  | some w => .exc 46 [(169, .str w)] L
  | none => .ok (.val .non) L
theorem c_names (k : Nat) (L : LH) (x : V2) (ws : List (List Nat)) (hr : Row L (ws.map D.str) x) : call ld.pg false (k + 2) 29 [x] L = namesR ws L := by
  obtain ⟨sl', e⟩ := names_loop k L x (ws.map D.str) _ hr.src ws none
  rw [run_check_names]
  unfold namesR
  cases hb : badA ws with
  | some w =>
    rw [hb] at e
    simp only at e
    simp [b_check_names, hr.items, e, seqS']
  | none =>
    rw [hb] at e
    simp only at e
    simp [b_check_names, hr.items, e]
theorem lot_loop (K : Nat) (L : LH) (x : V2) (ds : List D) (src : Option Nat) (hs : ∀ M, srcOk src ds (L ++ M)) : ∀ (r acc : List (List Nat)) (c : Option V2), acc.length + r.length ≤ 10000 →
    ∃ sl' acc', forGo (fun s' L' => execs (cl ld.pg false K) p_make_lot_1 s' L') (.nm 2) src ds (r.map D.str) [some x, some (.ref L.length), c] (L ++ [.dct (seenD acc)]) = match dupA acc r with
      | some w => .exc 164 [(172, .str w)] sl' (L ++ [.dct (seenD acc')])
      | none => .nx [some x, some (.ref L.length), lastV D.str r c] (L ++ [.dct (seenD acc')])
  | [], acc, c, h => ⟨[], acc, by rw [List.map_nil, for_0s _ _ _ _ _ _ (hs _)]; rfl⟩
  | w :: r, acc, c, h => by
    rw [List.map_cons, for_1s _ _ _ _ _ _ _ _ (hs _)]
    simp only [List.set, List.length_cons] at h ⊢
    have ex : ld.pg.exc 164 = some (1, [(172, 1)]) := rfl
    have hi : cmpIn (.val (.str w)) (.ref L.length) (L ++ [.dct (seenD acc)]) = some (decide (w ∈ acc)) := in_seen _ _ _ _ (by simp)
    by_cases hm : w ∈ acc
    · have tn : execs (cl ld.pg false K) p_make_lot_1 [some x, some (.ref L.length), some (.val (.str w))] (L ++ [.dct (seenD acc)]) = .exc 164 [(172, .str w)] [some x, some (.ref L.length), some (.val (.str w))] (L ++ [.dct (seenD acc)]) := by simp [p_make_lot_1, hi, hm, brP_pos, ex, fldD, seqS']
      exact ⟨_, acc, by rw [tn]; simp [dupA, hm]; rfl⟩
    · have hl : acc.length < 16777216 := by omega
      have tn : execs (cl ld.pg false K) p_make_lot_1 [some x, some (.ref L.length), some (.val (.str w))] (L ++ [.dct (seenD acc)]) = .nx [some x, some (.ref L.length), some (.val (.str w))] (L ++ [.dct (seenD (acc ++ [w]))]) := by simp [p_make_lot_1, hi, hm, brP_neg, seen_put w acc hm, hl]
      obtain ⟨sl', acc', e⟩ := lot_loop K L x ds src hs r (acc ++ [w]) (some (.val (.str w))) (by simp; omega)
      exact ⟨sl', acc', by rw [tn, RS.turn_nx, e]; simp [dupA, hm]⟩
def lotR (ws : List (List Nat)) (L : LH) : R V2 := match badA ws with
  | some w => .exc 46 [(169, .str w)] L
  | none => (match dupA [] ws with
    | some w => .exc 164 [(172, .str w)] L
    | none => .ok (.val (.tup ((ssort ws).map D.str))) L)
theorem c_lot (k : Nat) (L : LH) (x : V2) (ws : List (List Nat)) (hr : Row L (ws.map D.str) x) (hl : ws.length ≤ 10000) : call ld.pg false (k + 3) 30 [x] L = lotR ws L := by
  have hn := c_names k L x ws hr
  rw [run_make_lot]
  unfold lotR
  unfold namesR at hn
  cases hb : badA ws with
  | some w =>
    rw [hb] at hn
    simp only at hn
    simp [b_make_lot, hn, seqS']
  | none =>
    rw [hb] at hn
    simp only at hn
    have hrM : ∀ M, Row (L ++ M) (ws.map D.str) x := hr.app
    obtain ⟨sl', acc', e⟩ := lot_loop (k + 2) L x (ws.map D.str) (srcOf .over [x]) (fun M => (hrM M).src) ws [] none (by simp; omega)
    have e0 : seenD [] = [] := rfl
    rw [e0] at e
    have hl2 : ws.length ≤ 16777216 := by omega
    have hi := (hrM [.dct []]).items
    have hsq := fun M => (hrM M).seq
    cases hd : dupA [] ws with
    | some w =>
      rw [hd] at e
      simp only at e
      simp [b_make_lot, hn, hi, e, seqS']
    | none =>
      rw [hd] at e
      simp only at e
      simp [b_make_lot, BI.calm, hn, hi, e, hsq, hl2]
def toldD (ws : List (List Nat)) : D := match badA ws with
  | some w => .lst [.bl false, .tup [.str tBadPlace, .str w]]
  | none => (match dupA [] ws with
    | some w => .lst [.bl false, .tup [.str tRepeated, .str w]]
    | none => .lst [.bl true, .tup ((ssort ws).map D.str)])
def plain : Nat → D → Bool
  | _, .non => true
  | _, .bl _ => true
  | _, .int _ => true
  | _, .str _ => true
  | n + 1, .tup xs => decide (xs.length ≤ 10000) && xs.all (plain n)
  | n + 1, .lst xs => decide (xs.length ≤ 10000) && xs.all (plain n)
  | _, _ => false
theorem same_loop (K : Nat) (L : LH) (x : V2) (xs : List D) (hr : Row L xs x) (ds : List D) (hd : ∀ d ∈ xs, call ld.pg false K 6 [.val d, .val d] L = .ok (.val (.bl true)) L) : ∀ (m i : Nat) (c : Option V2), i + m = xs.length →
    ∃ c', forGo (fun s' L' => execs (cl ld.pg false K) p__law_same_1 s' L') (.nm 2) none ds (iup i m) [some x, some x, c] L = .nx [some x, some x, c'] L
  | 0, i, c, h => ⟨c, by simp⟩
  | m + 1, i, c, h => by
    have hi : i < xs.length := by omega
    have tn : execs (cl ld.pg false K) p__law_same_1 [some x, some x, some (.val (.int i))] L = .nx [some x, some x, some (.val (.int i))] L := by
      simp [p__law_same_1, hr.at_, hi, hd xs[i] (List.getElem_mem hi)]
    rw [iup_s, for_1]
    simp only [List.set]
    rw [tn, RS.turn_nx]
    exact same_loop K L x xs hr ds hd m (i + 1) _ (by omega)
section
variable (L : LH) (i : Int) (s : List Nat) (xs : List D) (b : Bool)
@[simp] theorem ii_i : isIC ld.pg.kit L (.val (.int i)) [.ty "int"] = some true := rfl
@[simp] theorem ii_b : isIC ld.pg.kit L (.val (.int i)) [.ty "bool"] = some false := rfl
@[simp] theorem is_i : isIC ld.pg.kit L (.val (.str s)) [.ty "int"] = some false := rfl
@[simp] theorem is_s : isIC ld.pg.kit L (.val (.str s)) [.ty "str"] = some true := rfl
@[simp] theorem it_i : isIC ld.pg.kit L (.val (.tup xs)) [.ty "int"] = some false := rfl
@[simp] theorem it_s : isIC ld.pg.kit L (.val (.tup xs)) [.ty "str"] = some false := rfl
@[simp] theorem it_l : isIC ld.pg.kit L (.val (.tup xs)) [.ty "list"] = some false := rfl
@[simp] theorem it_t : isIC ld.pg.kit L (.val (.tup xs)) [.ty "tuple"] = some true := rfl
@[simp] theorem il_i : isIC ld.pg.kit L (.val (.lst xs)) [.ty "int"] = some false := rfl
@[simp] theorem il_s : isIC ld.pg.kit L (.val (.lst xs)) [.ty "str"] = some false := rfl
@[simp] theorem il_l : isIC ld.pg.kit L (.val (.lst xs)) [.ty "list"] = some true := rfl
@[simp] theorem il_t : isIC ld.pg.kit L (.val (.lst xs)) [.ty "tuple"] = some false := rfl
end
theorem same_refl : ∀ (n : Nat) (d : D) (h : plain n d = true) (K : Nat) (L : LH), call ld.pg false (K + n + 1) 6 [.val d, .val d] L = .ok (.val (.bl true)) L := by
  intro n
  induction n with
  | zero =>
    intro d h K L
    rw [run__law_same]
    cases d with
    | non => simp [b__law_same]
    | bl b => cases b <;> simp [b__law_same]
    | int i => simp [b__law_same]
    | str s => simp [b__law_same]
    | _ => simp [plain] at h
  | succ n ih =>
    intro d h K L
    rw [run__law_same]
    cases d with
    | non => simp [b__law_same]
    | bl b => cases b <;> simp [b__law_same]
    | int i => simp [b__law_same]
    | str s => simp [b__law_same]
    | tup xs =>
      simp only [plain, Bool.and_eq_true, decide_eq_true_eq, List.all_eq_true] at h
      have hs : smallI (xs.length : Int) = true := small_of (by omega)
      obtain ⟨c, e⟩ := same_loop (K + (n + 1)) L (.val (.tup xs)) xs .tup (iup 0 xs.length) (fun d hd => ih d (h.2 d hd) K L) xs.length 0 none (by omega)
      simp [b__law_same, BI.calm, hs, e]
    | lst xs =>
      simp only [plain, Bool.and_eq_true, decide_eq_true_eq, List.all_eq_true] at h
      have hs : smallI (xs.length : Int) = true := small_of (by omega)
      obtain ⟨c, e⟩ := same_loop (K + (n + 1)) L (.val (.lst xs)) xs .lst (iup 0 xs.length) (fun d hd => ih d (h.2 d hd) K L) xs.length 0 none (by omega)
      simp [b__law_same, BI.calm, hs, e]
    | _ => simp [plain] at h
theorem asc_loop (K : Nat) (L : LH) (x : V2) (ws : List (List Nat)) (hr : Row L (ws.map D.str) x) (hs : ws.Pairwise (· < ·)) (ds : List D) : ∀ (m i : Nat) (c : Option V2), i + 1 + m = ws.length →
    ∃ c', forGo (fun s' L' => execs (cl ld.pg false K) p__law_ascends_1 s' L') (.nm 1) none ds (iup (i + 1) m) [some x, c] L = .nx [some x, c'] L
  | 0, i, c, h => ⟨c, by simp⟩
  | m + 1, i, c, h => by
    have hi : i + 1 < ws.length := by omega
    have hlt : ws[i] < ws[i + 1] := List.pairwise_iff_getElem.mp hs i (i + 1) (by omega) hi (by omega)
    have e1 : L2.atI (ws.map D.str) (((i + 1 : Nat) : Int) - 1) = some (.str ws[i]) := by
      rw [show (((i + 1 : Nat) : Int) - 1) = (i : Nat) by omega, atI_n]
      simp [show i < ws.length by omega]
    have e2 : L2.atI (ws.map D.str) ((i + 1 : Nat) : Int) = some (.str ws[i + 1]) := by
      rw [atI_n]
      simp [hi]
    have tn : execs (cl ld.pg false K) p__law_ascends_1 [some x, some (.val (.int ((i + 1 : Nat) : Int)))] L = .nx [some x, some (.val (.int ((i + 1 : Nat) : Int)))] L := by
      simp only [p__law_ascends_1, z_cons, z_if, z_not, z_cmp, z_sub, z_v, z_bin, z_c, List.getElem?_cons_zero, List.getElem?_cons_succ, slK_some, R.bind_ok, b_sub, hr.at_, e1, e2, atK_s, cmp_ltS, hlt, decide_true, tr_b, Option.map_some, Bool.not_true, icK_some, R.st_ok, brS_f, z_nil, seqS_nx]
    rw [iup_s, for_1]
    simp only [List.set]
    rw [tn, RS.turn_nx]
    exact asc_loop K L x ws hr hs ds m (i + 1) _ (by omega)
theorem c_asc (k : Nat) (L : LH) (x : V2) (ws : List (List Nat)) (hr : Row L (ws.map D.str) x) (hs : ws.Pairwise (· < ·)) (hl : ws.length ≤ 10000) : call ld.pg false (k + 1) 34 [x] L = .ok (.val (.bl true)) L := by
  have h2 : smallI (ws.length : Int) = true := small_of (by omega)
  have hlen := hr.len false
  rw [List.length_map] at hlen
  rw [run__law_ascends]
  cases hw : ws.length with
  | zero =>
    rw [hw] at hlen
    simp [b__law_ascends, BI.calm, hlen]
  | succ n =>
    obtain ⟨c, e⟩ := asc_loop k L x ws hr hs (iup 1 n) n 0 none (by omega)
    rw [hw] at hlen h2
    have e3 : (((n + 1 : Nat) : Int) - 1).toNat = n := by omega
    simp only [Nat.zero_add] at e
    simp only [b__law_ascends, z_cons, z_for, z_evs1, z_evs0, z_c, z_bi, BI.calm, Bool.and_false, Bool.false_and, z_v, List.getElem?_cons_zero, slK_some, R.bind_ok, hlen, R.st_ok, it_range2l, h2, src_g2, e3, forK_some, e, seqS_nx, z_ret, seqS_rt, fin_rtv, List.take_length]
end Lw

set_option maxRecDepth 100000
set_option maxHeartbeats 4000000
namespace Lw
open PI PySem
def ascB (ws : List (List Nat)) : Bool := (List.range' 1 (ws.length - 1)).all fun k => decide (ws.getD (k - 1) [] < ws.getD k [])
theorem at_ok (ws : List (List Nat)) (k : Nat) (h : k < ws.length) : L2.atI (ws.map D.str) (k : Int) = some (.str (ws.getD k [])) := by
  rw [atI_n, List.getElem?_map, List.getElem?_eq_getElem h, List.getD_eq_getElem?_getD, List.getElem?_eq_getElem h]
  rfl
theorem c_ascP (K : Nat) (L : LH) (x : V2) (ws : List (List Nat)) (hr : Row L (ws.map D.str) x) (hl : ws.length ≤ 10000) : call ld.pg false (K + 1) 48 [x] L = .ok (.val (.bl (ascB ws))) L := by
  have hlen := hr.len false
  rw [List.length_map] at hlen
  have hs : smallI (ws.length : Int) = true := small_of (by omega)
  have hi : (iup 1 ((ws.length : Int) - 1).toNat) = (List.range' 1 (ws.length - 1)).map fun k => D.int (k : Nat) := by
    unfold iup
    rw [show ((ws.length : Int) - 1).toNat = ws.length - 1 by omega]
  have cf := comp_fm (F := turnF (cl ld.pg false K) [] p_ascends_1) (i := 1) (sl := [some x, none]) (src := none) (List.range' 1 (ws.length - 1)) (fun k => D.int (k : Nat)) (L := L) (fun k => some (.bl (decide (ws.getD (k - 1) [] < ws.getD k [])))) trivial (by simp; omega) (fun k hk => by
    rw [List.mem_range'_1] at hk
    have e1 : L2.atI (ws.map D.str) ((k : Int) - 1) = some (.str (ws.getD (k - 1) [])) := by
      rw [show ((k : Int) - 1) = ((k - 1 : Nat) : Int) by omega]
      exact at_ok ws _ (by omega)
    have e2 := at_ok ws k (by omega)
    simp only [turn_0, p_ascends_1, z_cmp, z_sub, z_bin, z_v, z_c, List.set, List.getElem?_cons_zero, List.getElem?_cons_succ, slK_some, R.bind_ok, b_sub, hr.at_, e1, e2, atK_s, cmp_ltS, datR_v]) false
  have fm : (List.range' 1 (ws.length - 1)).filterMap (fun k => some (D.bl (decide (ws.getD (k - 1) [] < ws.getD k [])))) = ((List.range' 1 (ws.length - 1)).map fun k => decide (ws.getD (k - 1) [] < ws.getD k [])).map D.bl := by
    rw [List.filterMap_eq_map', List.map_map]
    rfl
  rw [fm, ← hi] at cf
  have hl2 : (((List.range' 1 (ws.length - 1)).map fun k => decide (ws.getD (k - 1) [] < ws.getD k [])).map D.bl).length ≤ 16777216 := by simp; omega
  rw [newLf_ok _ _ hl2] at cf
  have ha : ((List.range' 1 (ws.length - 1)).map fun k => decide (ws.getD (k - 1) [] < ws.getD k [])).all id = ascB ws := by
    unfold ascB
    rw [List.all_map]
    rfl
  rw [run_ascends]
  simp only [b_ascends, z_cons, z_ret, z_bi, BI.calm, Bool.and_false, Bool.false_and, z_evs1, z_evs0, z_comp, z_c, z_v, List.getElem?_cons_zero, slK_some, R.bind_ok, hlen, it_range2l, hs, src_g2, cf, bi_allL, ha, R.st_ok, seqS_rt, fin_rtv, List.take_length]
/-- the law's -/
def ascL : Nat → Nat → List (List Nat) → Bool
  | 0, _, _ => true
  | m + 1, i, ws => decide (ws.getD (i - 1) [] < ws.getD i []) && ascL m (i + 1) ws
theorem ascL_eq (ws : List (List Nat)) : ∀ m i, ascL m i ws = (List.range' i m).all fun k => decide (ws.getD (k - 1) [] < ws.getD k [])
  | 0, i => rfl
  | m + 1, i => by
    rw [List.range'_succ, List.all_cons, ← ascL_eq ws m (i + 1)]
    rfl
theorem asc2_loop (K : Nat) (L : LH) (x : V2) (ws : List (List Nat)) (hr : Row L (ws.map D.str) x) (ds : List D) : ∀ (m i : Nat) (c : Option V2), i + 1 + m ≤ ws.length →
    ∃ c', forGo (fun s' L' => execs (cl ld.pg false K) p__law_ascends_1 s' L') (.nm 1) none ds (iup (i + 1) m) [some x, c] L = if ascL m (i + 1) ws then .nx [some x, c'] L else .rt (.val (.bl false)) L
  | 0, i, c, h => ⟨c, by simp [ascL]⟩
  | m + 1, i, c, h => by
    have e1 : L2.atI (ws.map D.str) (((i + 1 : Nat) : Int) - 1) = some (.str (ws.getD (i + 1 - 1) [])) := by
      rw [show (((i + 1 : Nat) : Int) - 1) = (i : Nat) by omega]
      exact at_ok ws i (by omega)
    have e2 := at_ok ws (i + 1) (by omega)
    rw [iup_s, for_1]
    simp only [List.set, ascL]
    by_cases hb0 : ws.getD (i + 1 - 1) [] < ws.getD (i + 1) []
    · have hb : decide (ws.getD (i + 1 - 1) [] < ws.getD (i + 1) []) = true := decide_eq_true hb0
      have tn : execs (cl ld.pg false K) p__law_ascends_1 [some x, some (.val (.int ((i + 1 : Nat) : Int)))] L = .nx [some x, some (.val (.int ((i + 1 : Nat) : Int)))] L := by
        simp only [p__law_ascends_1, z_cons, z_if, z_not, z_cmp, z_sub, z_v, z_bin, z_c, List.getElem?_cons_zero, List.getElem?_cons_succ, slK_some, R.bind_ok, b_sub, hr.at_, e1, e2, atK_s, cmp_ltS, hb, tr_b, Option.map_some, Bool.not_true, icK_some, R.st_ok, brS_f, z_nil, seqS_nx]
      obtain ⟨c', e⟩ := asc2_loop K L x ws hr ds m (i + 1) (some (.val (.int ((i + 1 : Nat) : Int)))) (by omega)
      exact ⟨c', by rw [tn, RS.turn_nx, e]; simp only [hb, Bool.true_and]⟩
    · have hb : decide (ws.getD (i + 1 - 1) [] < ws.getD (i + 1) []) = false := decide_eq_false hb0
      have tn : execs (cl ld.pg false K) p__law_ascends_1 [some x, some (.val (.int ((i + 1 : Nat) : Int)))] L = .rt (.val (.bl false)) L := by
        simp only [p__law_ascends_1, z_cons, z_if, z_not, z_cmp, z_sub, z_v, z_bin, z_c, List.getElem?_cons_zero, List.getElem?_cons_succ, slK_some, R.bind_ok, b_sub, hr.at_, e1, e2, atK_s, cmp_ltS, hb, tr_b, Option.map_some, Bool.not_false, icK_some, R.st_ok, brS_t, z_ret, seqS_rt, z_nil]
      exact ⟨none, by rw [tn]; simp only [hb, Bool.false_and, Bool.false_eq_true, if_false, RS.turn_rt]⟩
theorem c_asc2 (k : Nat) (L : LH) (x : V2) (ws : List (List Nat)) (hr : Row L (ws.map D.str) x) (hl : ws.length ≤ 10000) : call ld.pg false (k + 1) 34 [x] L = .ok (.val (.bl (ascB ws))) L := by
  have h2 : smallI (ws.length : Int) = true := small_of (by omega)
  have hlen := hr.len false
  rw [List.length_map] at hlen
  have hA : ascB ws = ascL (ws.length - 1) 1 ws := (ascL_eq ws _ 1).symm
  have e3 : ((ws.length : Int) - 1).toNat = ws.length - 1 := by omega
  have lp : ∃ c', forGo (fun s' L' => execs (cl ld.pg false k) p__law_ascends_1 s' L') (.nm 1) none (iup 1 (ws.length - 1)) (iup 1 (ws.length - 1)) [some x, none] L = if ascL (ws.length - 1) 1 ws then .nx [some x, c'] L else .rt (.val (.bl false)) L := by
    cases hw : ws.length with
    | zero => exact ⟨none, by simp [ascL]⟩
    | succ n => exact asc2_loop k L x ws hr (iup 1 n) n 0 none (by omega)
  obtain ⟨c, e⟩ := lp
  rw [run__law_ascends, hA]
  cases hb : ascL (ws.length - 1) 1 ws with
  | true =>
    rw [hb, if_pos rfl] at e
    simp only [b__law_ascends, z_cons, z_for, z_evs1, z_evs0, z_c, z_bi, BI.calm, Bool.and_false, Bool.false_and, z_v, List.getElem?_cons_zero, slK_some, R.bind_ok, hlen, R.st_ok, it_range2l, h2, src_g2, e3, forK_some, e, seqS_nx, z_ret, seqS_rt, fin_rtv, List.take_length]
  | false =>
    rw [hb, if_neg (by simp)] at e
    simp only [b__law_ascends, z_cons, z_for, z_evs1, z_evs0, z_c, z_bi, BI.calm, Bool.and_false, Bool.false_and, z_v, List.getElem?_cons_zero, slK_some, R.bind_ok, hlen, R.st_ok, it_range2l, h2, src_g2, e3, forK_some, e, seqS_rt, fin_rtv, List.take_length]
end Lw

set_option maxRecDepth 100000
set_option maxHeartbeats 4000000
namespace Lw
open PI PySem
/-- what is refused: nothing, or a class with its fields -/
abbrev Flt := Option (Nat × List (Nat × D))
def fltR (f : Flt) (L : LH) : R V2 := match f with
  | none => .ok (.val .non) L
  | some e => .exc e.1 e.2 L
@[simp] theorem fltR_n (L : LH) : fltR none L = .ok (.val .non) L := rfl
@[simp] theorem fltR_s (C : Nat) (fs : List (Nat × D)) (L : LH) : fltR (some (C, fs)) L = .exc C fs L := rfl
/-- a world, or none -/
def optD : Option (List (List Nat)) → D
  | none => .non
  | some ws => .tup (ws.map D.str)
def namesF (ws : List (List Nat)) : Flt := (badA ws).map fun w => (46, [(169, .str w)])
theorem c_namesF (k : Nat) (L : LH) (x : V2) (ws : List (List Nat)) (hr : Row L (ws.map D.str) x) : call ld.pg false (k + 2) 29 [x] L = fltR (namesF ws) L := by
  rw [c_names k L x ws hr]
  unfold namesR namesF
  cases badA ws <;> rfl
def knownA (ws vs : List (List Nat)) : Option (List Nat) := ws.find? fun w => decide (w ∉ vs)
def knownF (ws vs : List (List Nat)) : Flt := (knownA ws vs).map fun w => (66, [(169, .str w)])
theorem known_loop (K : Nat) (L : LH) (x y : V2) (vs : List (List Nat)) (hy : Row L (vs.map D.str) y) (ds : List D) (src : Option Nat) (hs : srcOk src ds L) : ∀ (r : List (List Nat)) (c : Option V2),
    ∃ sl', forGo (fun s' L' => execs (cl ld.pg false K) p_check_known_1 s' L') (.nm 2) src ds (r.map D.str) [some x, some y, c] L = match knownA r vs with
      | some w => .exc 66 [(169, .str w)] sl' L
      | none => .nx sl' L
  | [], c => ⟨_, by rw [List.map_nil, for_0s _ _ _ _ _ _ hs]; rfl⟩
  | w :: r, c => by
    rw [List.map_cons, for_1s _ _ _ _ _ _ _ _ hs]
    simp only [List.set]
    by_cases h : w ∈ vs
    · have tn : execs (cl ld.pg false K) p_check_known_1 [some x, some y, some (.val (.str w))] L = .nx [some x, some y, some (.val (.str w))] L := by simp [p_check_known_1, hy.ins rfl, h, brP_neg]
      obtain ⟨sl', e⟩ := known_loop K L x y vs hy ds src hs r (some (.val (.str w)))
      exact ⟨sl', by rw [tn, RS.turn_nx, e]; simp [knownA, h]⟩
    · have tn : execs (cl ld.pg false K) p_check_known_1 [some x, some y, some (.val (.str w))] L = .exc 66 [(169, .str w)] [some x, some y, some (.val (.str w))] L := by simp [p_check_known_1, hy.ins rfl, h, brP_pos, fldD]
      exact ⟨_, by rw [tn]; simp [knownA, h]; rfl⟩
theorem c_known (k : Nat) (L : LH) (x y : V2) (ws vs : List (List Nat)) (hr : Row L (ws.map D.str) x) (hy : Row L (vs.map D.str) y) : call ld.pg false (k + 1) 49 [x, y] L = fltR (knownF ws vs) L := by
  obtain ⟨sl', e⟩ := known_loop k L x y vs hy (ws.map D.str) _ hr.src ws none
  rw [run_check_known]
  unfold knownF
  cases hb : knownA ws vs with
  | some w =>
    rw [hb] at e
    simp only at e
    simp [b_check_known, hr.items, e, seqS']
  | none =>
    rw [hb] at e
    simp only at e
    simp [b_check_known, hr.items, e]
def isLot (ws : List (List Nat)) : Bool := ascB ws && ws.all plc
theorem c_isLot (K : Nat) (L : LH) (ws : List (List Nat)) (hl : ws.length ≤ 10000) : call ld.pg false (K + 2) 50 [.val (.tup (ws.map D.str))] L = .ok (.val (.bl (isLot ws))) L := by
  have ha := c_ascP K L _ ws .tup hl
  have cf := comp_fm (F := turnF (cl ld.pg false (K + 1)) [] p_is_lot_1) (i := 1) (sl := [some (.val (.tup (ws.map D.str))), none]) (src := none) ws D.str (L := L) (fun w => some (.bl (plc w))) trivial (by omega) (fun w _ => by simp [p_is_lot_1]) false
  have fm : ws.filterMap (fun w => some (D.bl (plc w))) = (ws.map plc).map D.bl := by
    rw [List.filterMap_eq_map', List.map_map]
    rfl
  have hl2 : ws.length ≤ 16777216 := by omega
  rw [fm] at cf
  rw [run_is_lot]
  unfold isLot
  cases hb : ascB ws with
  | false =>
    rw [hb] at ha
    simp [b_is_lot, ha]
  | true =>
    rw [hb] at ha
    simp [b_is_lot, BI.calm, ha, cf, hl2, -List.map_map, List.all_map]
def lotF (ws : List (List Nat)) (o : Option (List (List Nat))) : Flt := match namesF ws with
  | some e => some e
  | none => if ascB ws then (match o with
    | none => none
    | some vs => knownF ws vs) else some (170, [(171, .tup (ws.map D.str))])
theorem c_chkLot (K : Nat) (L : LH) (ws : List (List Nat)) (o : Option (List (List Nat))) (hl : ws.length ≤ 10000) : call ld.pg false (K + 3) 52 [.val (.tup (ws.map D.str)), .val (optD o)] L = fltR (lotF ws o) L := by
  have hn := c_namesF K L _ ws .tup
  have ha := c_ascP (K + 1) L _ ws .tup hl
  rw [run_check_lot]
  unfold lotF
  cases hb : namesF ws with
  | some e =>
    obtain ⟨C, fs⟩ := e
    rw [hb] at hn
    simp only [fltR_s] at hn
    simp [b_check_lot, hn, seqS']
  | none =>
    rw [hb] at hn
    simp only [fltR_n] at hn
    cases hc : ascB ws with
    | false =>
      rw [hc] at ha
      simp [b_check_lot, hn, ha, seqS', fldD]
    | true =>
      rw [hc] at ha
      cases o with
      | none => simp [b_check_lot, hn, ha, optD]
      | some vs =>
        have hk := c_known (K + 1) L (.val (.tup (ws.map D.str))) (.val (.tup (vs.map D.str))) ws vs .tup .tup
        cases hd : knownF ws vs with
        | none =>
          rw [hd] at hk
          simp only [fltR_n] at hk
          simp [b_check_lot, hn, ha, optD, hk, hd]
        | some e =>
          obtain ⟨C, fs⟩ := e
          rw [hd] at hk
          simp only [fltR_s] at hk
          simp [b_check_lot, hn, ha, optD, hk, hd, seqS']
def placeF (w : List Nat) (o : Option (List (List Nat))) : Flt := if plc w then (match o with
  | none => none
  | some vs => if w ∈ vs then none else some (66, [(169, .str w)])) else some (46, [(169, .str w)])
theorem c_chkPlace (K : Nat) (L : LH) (w : List Nat) (o : Option (List (List Nat))) : call ld.pg false (K + 2) 51 [.val (.str w), .val (optD o)] L = fltR (placeF w o) L := by
  rw [run_check_place]
  unfold placeF
  cases hp : plc w with
  | false => simp [b_check_place, hp, seqS', fldD]
  | true =>
    cases o with
    | none => simp [b_check_place, hp, optD]
    | some vs =>
      by_cases h : w ∈ vs
      · simp [b_check_place, hp, optD, h, brP_neg]
      · simp [b_check_place, hp, optD, h, brP_pos, seqS', fldD]
def worldF (ws : List (List Nat)) (n : Nat) : Flt := match lotF ws none with
  | some e => some e
  | none => if n < ws.length then some (179, [(180, .int ws.length), (25, .int n)]) else none
theorem c_chkPlaces (K : Nat) (L : LH) (ws : List (List Nat)) (n : Nat) (hl : ws.length ≤ 10000) : call ld.pg false (K + 4) 53 [.val (.tup (ws.map D.str)), .val (.int (n : Nat))] L = fltR (worldF ws n) L := by
  have hlot := c_chkLot K L ws none hl
  simp only [optD] at hlot
  rw [run_check_places]
  unfold worldF
  cases hb : lotF ws none with
  | some e =>
    obtain ⟨C, fs⟩ := e
    rw [hb] at hlot
    simp only [fltR_s] at hlot
    simp [b_check_places, hlot, seqS']
  | none =>
    rw [hb] at hlot
    simp only [fltR_n] at hlot
    by_cases h : n < ws.length
    · have h' : (n : Int) < (ws.length : Int) := by omega
      simp [b_check_places, BI.calm, hlot, h, h', brP_pos, seqS', fldD]
    · have h' : ¬ (n : Int) < (ws.length : Int) := by omega
      simp [b_check_places, BI.calm, hlot, h, h', brP_neg]
end Lw

set_option maxRecDepth 100000
set_option maxHeartbeats 4000000
namespace Lw
open PI PySem
def tBadLot : List Nat := [66, 97, 100, 76, 111, 116]
def tUnknown : List Nat := [85, 110, 107, 110, 111, 119, 110]
def tTooMany : List Nat := [84, 111, 111, 77, 97, 110, 121]
def wordOf (C : Nat) : List Nat := if C = 46 then tBadPlace else if C = 170 then tBadLot else if C = 66 then tUnknown else tTooMany
/-- what is due -/
def fltD : Flt → D
  | none => .non
  | some e => .tup (.str (wordOf e.1) :: (e.2.map (·.2)).reverse)
/-- the classes of these checks -/
def okF (f : Flt) : Prop := f = none ∨ (∃ d, f = some (46, [(169, d)]) ∧ plain 1 d = true) ∨ (∃ d, f = some (170, [(171, d)]) ∧ plain 1 d = true) ∨ (∃ d, f = some (66, [(169, d)]) ∧ plain 1 d = true) ∨ (∃ d e, f = some (179, [(180, d), (25, e)]) ∧ plain 1 d = true ∧ plain 1 e = true)
theorem plain_strs (ws : List (List Nat)) (h : ws.length ≤ 10000) : plain 1 (.tup (ws.map D.str)) = true := by
  simp only [plain, Bool.and_eq_true, decide_eq_true_eq, List.all_eq_true, List.length_map, List.mem_map]
  refine ⟨h, ?_⟩
  rintro _ ⟨w, _, rfl⟩
  rfl
theorem namesF_ok (ws : List (List Nat)) : okF (namesF ws) := by
  unfold namesF
  cases badA ws with
  | none => exact .inl rfl
  | some w => exact .inr (.inl ⟨_, rfl, rfl⟩)
theorem knownF_ok (ws vs : List (List Nat)) : okF (knownF ws vs) := by
  unfold knownF
  cases knownA ws vs with
  | none => exact .inl rfl
  | some w => exact .inr (.inr (.inr (.inl ⟨_, rfl, rfl⟩)))
theorem lotF_ok (ws : List (List Nat)) (o : Option (List (List Nat))) (h : ws.length ≤ 10000) : okF (lotF ws o) := by
  unfold lotF
  have := namesF_ok ws
  cases hn : namesF ws with
  | some e => rw [hn] at this; exact this
  | none =>
    simp only
    split
    · cases o with
      | none => exact .inl rfl
      | some vs => exact knownF_ok ws vs
    · exact .inr (.inr (.inl ⟨_, rfl, plain_strs ws h⟩))
theorem worldF_ok (ws : List (List Nat)) (n : Nat) (h : ws.length ≤ 10000) : okF (worldF ws n) := by
  unfold worldF
  have := lotF_ok ws none h
  cases hn : lotF ws none with
  | some e => rw [hn] at this; exact this
  | none =>
    simp only
    split
    · exact .inr (.inr (.inr (.inr ⟨_, _, rfl, rfl, rfl⟩)))
    · exact .inl rfl
theorem placeF_ok (w : List Nat) (o : Option (List (List Nat))) : okF (placeF w o) := by
  unfold placeF
  split
  · cases o with
    | none => exact .inl rfl
    | some vs =>
      simp only
      split
      · exact .inl rfl
      · exact .inr (.inr (.inr (.inl ⟨_, rfl, rfl⟩)))
  · exact .inr (.inl ⟨_, rfl, rfl⟩)
theorem c_clear (k : Nat) (L : LH) (C : Nat) (fs : List (Nat × D)) (h : okF (some (C, fs))) : call ld.pg true (k + 1) 60 [.exn C fs] L = .ok (.val (fltD (some (C, fs)))) L := by
  have ht : ∀ L, cmpIn (.val (.bl true)) (.val (.lst [.bl false, .bl false, .bl false, .bl false, .bl false, .bl false, .bl false, .bl false, .bl false, .bl false, .bl false, .bl false, .bl false, .bl false, .bl false, .bl false, .bl false])) L = some false := fun _ => rfl
  have lk : ∀ d e : D, List.lookup 25 [(180, d), (25, e)] = some e := fun _ _ => rfl
  rw [run__law_clear]
  rcases h with h | ⟨d, h, _⟩ | ⟨d, h, _⟩ | ⟨d, h, _⟩ | ⟨d, e, h, _, _⟩ <;> cases h <;>
    simp [b__law_clear, BI.calm, fldK, excFld, fltD, wordOf, tBadPlace, tBadLot, tUnknown, tTooMany, ht, lk]
/-- what is told of a question -/
def askD : Flt → D
  | none => .lst [.bl true, .non]
  | some e => .lst [.bl false, fltD (some e)]
def askS (sl : SL) (L : LH) : Flt → RS
  | none => .rt (.val (.lst [.bl true, .non])) L
  | some e => .exc e.1 e.2 sl L
@[simp] theorem askS_n (sl : SL) (L : LH) : askS sl L none = .rt (.val (.lst [.bl true, .non])) L := rfl
@[simp] theorem askS_s (sl : SL) (L : LH) (C : Nat) (fs : List (Nat × D)) : askS sl L (some (C, fs)) = .exc C fs sl L := rfl
theorem ask_of (k : Nat) (x y z : V2) (L : LH) (f : Flt) (h : okF f) (e : execs (cl ld.pg false (k + 1)) p__law_ask_1 [some x, some y, some z, none] L = askS [some x, some y, some z, none] L f) : call ld.pg false (k + 2) 61 [x, y, z] L = .ok (.val (askD f)) L := by
  rw [run__law_ask]
  cases f with
  | none =>
    simp only [askS_n] at e
    simp [b__law_ask, e, askD]
  | some q =>
    obtain ⟨C, fs⟩ := q
    simp only [askS_s] at e
    have hs : ld.pg.sub C 167 = some true := by
      rcases h with h | ⟨d, h, _⟩ | ⟨d, h, _⟩ | ⟨d, h, _⟩ | ⟨d, e, h, _, _⟩ <;> cases h <;> rfl
    have hc := c_clear k L C fs h
    simp [b__law_ask, e, hs, p__law_ask_2, hc, askD]
def tlot : List Nat := [108, 111, 116]
def tplace : List Nat := [112, 108, 97, 99, 101]
def tworld : List Nat := [119, 111, 114, 108, 100]
theorem c_askLot (K : Nat) (L : LH) (ws : List (List Nat)) (o : Option (List (List Nat))) (hl : ws.length ≤ 10000) : call ld.pg false (K + 5) 61 [.val (.str tlot), .val (.tup (ws.map D.str)), .val (optD o)] L = .ok (.val (askD (lotF ws o))) L := by
  have hc := c_chkLot (K + 1) L ws o hl
  refine ask_of (K + 3) _ _ _ L _ (lotF_ok ws o hl) ?_
  cases o with
  | none =>
    simp only [optD] at hc ⊢
    cases hf : lotF ws none with
    | none => rw [hf] at hc; simp [p__law_ask_1, tlot, hc]
    | some e => rw [hf] at hc; obtain ⟨C, fs⟩ := e; simp only [fltR_s] at hc; simp [p__law_ask_1, tlot, hc, seqS']
  | some vs =>
    simp only [optD] at hc ⊢
    cases hf : lotF ws (some vs) with
    | none => rw [hf] at hc; simp [p__law_ask_1, tlot, hc]
    | some e => rw [hf] at hc; obtain ⟨C, fs⟩ := e; simp only [fltR_s] at hc; simp [p__law_ask_1, tlot, hc, seqS']
theorem c_askPlace (K : Nat) (L : LH) (w : List Nat) (o : Option (List (List Nat))) : call ld.pg false (K + 4) 61 [.val (.str tplace), .val (.str w), .val (optD o)] L = .ok (.val (askD (placeF w o))) L := by
  have hc := c_chkPlace (K + 1) L w o
  refine ask_of (K + 2) _ _ _ L _ (placeF_ok w o) ?_
  cases o with
  | none =>
    simp only [optD] at hc ⊢
    cases hf : placeF w none with
    | none => rw [hf] at hc; simp [p__law_ask_1, tplace, hc]
    | some e => rw [hf] at hc; obtain ⟨C, fs⟩ := e; simp only [fltR_s] at hc; simp [p__law_ask_1, tplace, hc, seqS']
  | some vs =>
    simp only [optD] at hc ⊢
    cases hf : placeF w (some vs) with
    | none => rw [hf] at hc; simp [p__law_ask_1, tplace, hc]
    | some e => rw [hf] at hc; obtain ⟨C, fs⟩ := e; simp only [fltR_s] at hc; simp [p__law_ask_1, tplace, hc, seqS']
theorem c_askWorld (K : Nat) (L : LH) (ws : List (List Nat)) (n : Nat) (hl : ws.length ≤ 10000) : call ld.pg false (K + 6) 61 [.val (.str tworld), .val (.tup (ws.map D.str)), .val (.int (n : Nat))] L = .ok (.val (askD (worldF ws n))) L := by
  have hc := c_chkPlaces (K + 1) L ws n hl
  refine ask_of (K + 4) _ _ _ L _ (worldF_ok ws n hl) ?_
  cases hf : worldF ws n with
  | none => rw [hf] at hc; simp [p__law_ask_1, tworld, hc]
  | some e => rw [hf] at hc; obtain ⟨C, fs⟩ := e; simp only [fltR_s] at hc; simp [p__law_ask_1, tworld, hc, seqS']
theorem c_askWorld7 (K : Nat) (L : LH) (ws : List (List Nat)) (hl : ws.length ≤ 10000) : call ld.pg false (K + 6) 61 [.val (.str tworld), .val (.tup (ws.map D.str)), .val .non] L = .ok (.val (askD (worldF ws 7))) L := by
  have hc := c_chkPlaces (K + 1) L ws 7 hl
  refine ask_of (K + 4) _ _ _ L _ (worldF_ok ws 7 hl) ?_
  cases hf : worldF ws 7 with
  | none => rw [hf] at hc; simp at hc; simp [p__law_ask_1, tworld, hc]
  | some e => rw [hf] at hc; obtain ⟨C, fs⟩ := e; simp only [fltR_s] at hc; simp at hc; simp [p__law_ask_1, tworld, hc, seqS']
end Lw

set_option maxRecDepth 100000
set_option maxHeartbeats 4000000
namespace Lw
open PI PySem
theorem c_placeDue (K : Nat) (L : LH) (w : List Nat) (o : Option (List (List Nat))) : call ld.pg false (K + 3) 57 [.val (.str w), .val (optD o)] L = .ok (.val (fltD (placeF w o))) L := by
  rw [run__law_place_due]
  unfold placeF
  cases hp : plc w with
  | false => simp [b__law_place_due, hp, fltD, wordOf, tBadPlace]
  | true =>
    cases o with
    | none => simp [b__law_place_due, hp, optD, fltD]
    | some vs =>
      by_cases h : w ∈ vs
      · simp [b__law_place_due, hp, optD, h, brP_neg, fltD]
      · simp [b__law_place_due, hp, optD, h, brP_pos, fltD, wordOf, tUnknown]
theorem ldue_loop1 (K : Nat) (L : LH) (x y z : Option V2) (ds : List D) : ∀ (r : List (List Nat)) (c : Option V2),
    forGo (fun s' L' => execs (cl ld.pg false (K + 2)) p__law_lot_due_1 s' L') (.nm 2) none ds (r.map D.str) [x, y, c] L = match badA r with
      | some w => .rt (.val (.tup [.str tBadPlace, .str w])) L
      | none => .nx [x, y, lastV D.str r c] L
  | [], c => by simp [badA]
  | w :: r, c => by
    rw [List.map_cons, for_1]
    simp only [List.set]
    by_cases h : plc w = true
    · have tn : execs (cl ld.pg false (K + 2)) p__law_lot_due_1 [x, y, some (.val (.str w))] L = .nx [x, y, some (.val (.str w))] L := by simp [p__law_lot_due_1, h]
      rw [tn, RS.turn_nx, ldue_loop1 K L x y z ds r]
      simp [badA, h]
    · have h' : plc w = false := by simpa using h
      have tn : execs (cl ld.pg false (K + 2)) p__law_lot_due_1 [x, y, some (.val (.str w))] L = .rt (.val (.tup [.str tBadPlace, .str w])) L := by simp [p__law_lot_due_1, h', tBadPlace]
      rw [tn]
      simp [badA, h']
theorem ldue_loop2 (K : Nat) (L : LH) (x : Option V2) (v : V2) (vs : List (List Nat)) (hy : Row L (vs.map D.str) v) (ds : List D) : ∀ (r : List (List Nat)) (c : Option V2),
    forGo (fun s' L' => execs (cl ld.pg false K) p__law_lot_due_2 s' L') (.nm 2) none ds (r.map D.str) [x, some v, c] L = match knownA r vs with
      | some w => .rt (.val (.tup [.str tUnknown, .str w])) L
      | none => .nx [x, some v, lastV D.str r c] L
  | [], c => by simp [knownA]
  | w :: r, c => by
    rw [List.map_cons, for_1]
    simp only [List.set]
    by_cases h : w ∈ vs
    · have tn : execs (cl ld.pg false K) p__law_lot_due_2 [x, some v, some (.val (.str w))] L = .nx [x, some v, some (.val (.str w))] L := by simp [p__law_lot_due_2, hy.ins rfl, h, brP_neg]
      rw [tn, RS.turn_nx, ldue_loop2 K L x v vs hy ds r]
      simp [knownA, h]
    · have tn : execs (cl ld.pg false K) p__law_lot_due_2 [x, some v, some (.val (.str w))] L = .rt (.val (.tup [.str tUnknown, .str w])) L := by simp [p__law_lot_due_2, hy.ins rfl, h, brP_pos, tUnknown]
      rw [tn]
      simp [knownA, h]
theorem c_lotDue (K : Nat) (L : LH) (ws : List (List Nat)) (o : Option (List (List Nat))) (hl : ws.length ≤ 10000) : call ld.pg false (K + 3) 58 [.val (.tup (ws.map D.str)), .val (optD o)] L = .ok (.val (fltD (lotF ws o))) L := by
  have l1 := ldue_loop1 K L (some (.val (.tup (ws.map D.str)))) (some (.val (optD o))) none (ws.map D.str) ws none
  have ha := c_asc2 (K + 1) L _ ws .tup hl
  rw [run__law_lot_due]
  unfold lotF namesF
  cases hb : badA ws with
  | some w =>
    rw [hb] at l1
    simp only at l1
    simp [b__law_lot_due, l1, fltD, wordOf]
  | none =>
    rw [hb] at l1
    simp only at l1
    cases hc : ascB ws with
    | false =>
      rw [hc] at ha
      simp [b__law_lot_due, l1, ha, fltD, wordOf, tBadLot]
    | true =>
      rw [hc] at ha
      cases o with
      | none =>
        simp only [optD] at l1 ⊢
        simp [b__law_lot_due, l1, ha, fltD]
      | some vs =>
        simp only [optD] at l1 ⊢
        have l2 := ldue_loop2 (K + 2) L (some (.val (.tup (ws.map D.str)))) (.val (.tup (vs.map D.str))) vs .tup (ws.map D.str) ws (lastV D.str ws none)
        unfold knownF
        cases hd : knownA ws vs with
        | none =>
          rw [hd] at l2
          simp only at l2
          simp [b__law_lot_due, l1, ha, fltD, l2]
        | some w =>
          rw [hd] at l2
          simp only at l2
          simp [b__law_lot_due, l1, ha, fltD, l2, wordOf]
theorem fltD_none (f : Flt) : (V2.val (fltD f)).isNon = f.isNone := by
  cases f <;> rfl
theorem c_worldDue (K : Nat) (L : LH) (ws : List (List Nat)) (n : Nat) (hl : ws.length ≤ 10000) : call ld.pg false (K + 4) 59 [.val (.tup (ws.map D.str)), .val (.int (n : Nat))] L = .ok (.val (fltD (worldF ws n))) L := by
  have h := c_lotDue K L ws none hl
  simp only [optD] at h
  rw [run__law_world_due]
  unfold worldF
  cases hf : lotF ws none with
  | some e =>
    obtain ⟨C, fs⟩ := e
    rw [hf] at h
    simp [b__law_world_due, h, fltD]
  | none =>
    rw [hf] at h
    simp only [fltD] at h
    by_cases hn : n < ws.length
    · have hn' : (n : Int) < (ws.length : Int) := by omega
      simp [b__law_world_due, BI.calm, h, hn, hn', brP_pos, fltD, wordOf, tTooMany]
    · have hn' : ¬ (n : Int) < (ws.length : Int) := by omega
      simp [b__law_world_due, BI.calm, h, hn, hn', brP_neg, fltD]
theorem plain_flt (f : Flt) (h : okF f) : plain 2 (fltD f) = true := by
  have mono : ∀ d, plain 1 d = true → plain 1 d = true := fun _ h => h
  rcases h with h | ⟨d, h, p⟩ | ⟨d, h, p⟩ | ⟨d, h, p⟩ | ⟨d, e, h, p, q⟩ <;> subst h
  · rfl
  · simp [fltD, plain, p]
  · simp [fltD, plain, p]
  · simp [fltD, plain, p]
  · simp [fltD, plain, p, q]
theorem c_fits (K : Nat) (L : LH) (f : Flt) (h : okF f) : call ld.pg false (K + 4) 62 [.val (askD f), .val (fltD f)] L = .ok (.val (.bl true)) L := by
  have hs := same_refl 2 (fltD f) (plain_flt f h) K L
  rw [run__law_fits]
  cases f with
  | none => simp [b__law_fits, askD, fltD]
  | some e =>
    have hn := fltD_none (some e)
    generalize hd : fltD (some e) = d at *
    simp at hn
    simp [b__law_fits, askD, hd, hn, hs]
theorem tr_loop (K : Nat) (L : LH) (ws : List (List Nat)) (hl : ws.length ≤ 10000) (y z : Option V2) (ds : List D) : ∀ (r : List (Option (List (List Nat)))) (c : Option V2),
    forGo (fun s' L' => execs (cl ld.pg false (K + 5)) p__law_tuple_right_1 s' L') (.nm 3) none ds (r.map optD) [some (.val (.tup (ws.map D.str))), y, z, c] L = .nx [some (.val (.tup (ws.map D.str))), y, z, lastV optD r c] L
  | [], c => by simp
  | o :: r, c => by
    have ha := c_askLot K L ws o hl
    have hd := c_lotDue (K + 2) L ws o hl
    have hf := c_fits (K + 1) L (lotF ws o) (lotF_ok ws o hl)
    simp only [tlot] at ha
    have tn : execs (cl ld.pg false (K + 5)) p__law_tuple_right_1 [some (.val (.tup (ws.map D.str))), y, z, some (.val (optD o))] L = .nx [some (.val (.tup (ws.map D.str))), y, z, some (.val (optD o))] L := by
      simp [p__law_tuple_right_1, ha, hd, hf]
    rw [List.map_cons, for_1]
    simp only [List.set]
    rw [tn, RS.turn_nx, tr_loop K L ws hl y z ds r]
    rfl
theorem isLot_due (ws : List (List Nat)) : isLot ws = (lotF ws none).isNone := by
  unfold isLot lotF namesF
  have h : (badA ws).isNone = ws.all plc := by
    unfold badA
    induction ws with
    | nil => rfl
    | cons a r ih => cases h : plc a <;> simp [h, ih]
  rw [← h]
  cases hb : badA ws with
  | some w => simp
  | none => cases hc : ascB ws <;> simp
theorem c_tupleRight (K : Nat) (L : LH) (ws : List (List Nat)) (os : List (Option (List (List Nat)))) (n : Nat) (hl : ws.length ≤ 10000) :
    call ld.pg false (K + 7) 63 [.val (.tup (ws.map D.str)), .val (.lst (os.map optD)), .val (.int (n : Nat))] L = .ok (.val (.bl true)) L := by
  have lp := tr_loop (K + 1) L ws hl (some (.val (.lst (os.map optD)))) (some (.val (.int (n : Nat)))) (os.map optD) os none
  have h1 := c_askWorld K L ws n hl
  have h2 := c_worldDue (K + 2) L ws n hl
  have h3 := c_fits (K + 2) L (worldF ws n) (worldF_ok ws n hl)
  have h4 := c_askWorld7 K L ws hl
  have h5 := c_worldDue (K + 2) L ws 7 hl
  have h6 := c_fits (K + 2) L (worldF ws 7) (worldF_ok ws 7 hl)
  have h7 := c_isLot (K + 4) L ws hl
  have h8 := c_lotDue (K + 3) L ws none hl
  have h9 := fltD_none (lotF ws none)
  have h10 := same_refl 0 (.bl (isLot ws)) rfl (K + 5) L
  rw [← isLot_due] at h9
  simp only [optD, tworld] at h1 h4 h8
  have h5' : call ld.pg false (K + 6) 59 [.val (.tup (ws.map D.str)), .val (.int 7)] L = .ok (.val (fltD (worldF ws 7))) L := h5
  rw [run__law_tuple_right]
  simp [b__law_tuple_right, lp, h1, h2, h3, h4, h5', h6, h7, h8, h9, h10]
theorem wr_loop1 (K : Nat) (L : LH) (w : List Nat) (x y : Option V2) (ds : List D) : ∀ (r : List (Option (List (List Nat)))) (c : Option V2),
    forGo (fun s' L' => execs (cl ld.pg false (K + 5)) p__law_words_right_1 s' L') (.nm 3) none ds (r.map optD) [x, y, some (.val (.str w)), c] L = .nx [x, y, some (.val (.str w)), lastV optD r c] L
  | [], c => by simp
  | o :: r, c => by
    have ha := c_askPlace (K + 1) L w o
    have hd := c_placeDue (K + 2) L w o
    have hf := c_fits (K + 1) L (placeF w o) (placeF_ok w o)
    simp only [tplace] at ha
    have tn : execs (cl ld.pg false (K + 5)) p__law_words_right_1 [x, y, some (.val (.str w)), some (.val (optD o))] L = .nx [x, y, some (.val (.str w)), some (.val (optD o))] L := by
      simp [p__law_words_right_1, ha, hd, hf]
    rw [List.map_cons, for_1]
    simp only [List.set]
    rw [tn, RS.turn_nx, wr_loop1 K L w x y ds r]
    rfl
theorem wr_loop2 (K : Nat) (L : LH) (x : Option V2) (os : List (Option (List (List Nat)))) (ds : List D) : ∀ (r : List (List Nat)) (c d : Option V2),
    ∃ c' d', forGo (fun s' L' => execs (cl ld.pg false (K + 5)) p__law_words_right_2 s' L') (.nm 2) none ds (r.map D.str) [x, some (.val (.lst (os.map optD))), c, d] L = .nx [x, some (.val (.lst (os.map optD))), c', d'] L
  | [], c, d => ⟨c, d, by simp⟩
  | w :: r, c, d => by
    have lp := wr_loop1 K L w x (some (.val (.lst (os.map optD)))) (os.map optD) os d
    have tn : execs (cl ld.pg false (K + 5)) p__law_words_right_2 [x, some (.val (.lst (os.map optD))), some (.val (.str w)), d] L = .nx [x, some (.val (.lst (os.map optD))), some (.val (.str w)), lastV optD os d] L := by
      simp [p__law_words_right_2, lp]
    obtain ⟨c', d', e⟩ := wr_loop2 K L x os ds r (some (.val (.str w))) (lastV optD os d)
    refine ⟨c', d', ?_⟩
    rw [List.map_cons, for_1]
    simp only [List.set]
    rw [tn, RS.turn_nx, e]
theorem c_wordsRight (K : Nat) (L : LH) (ws : List (List Nat)) (os : List (Option (List (List Nat)))) :
    call ld.pg false (K + 6) 64 [.val (.lst (ws.map D.str)), .val (.lst (os.map optD))] L = .ok (.val (.bl true)) L := by
  obtain ⟨c, d, lp⟩ := wr_loop2 K L (some (.val (.lst (ws.map D.str)))) os (ws.map D.str) ws none none
  rw [run__law_words_right]
  simp [b__law_words_right, lp]
end Lw

set_option maxRecDepth 100000
set_option maxHeartbeats 4000000
namespace Lw
open PI PySem
/-- a comprehension that draws -/
theorem comp_ex {F : SL → LH → R (Option D)} {i n : Nat} {sl : SL} {src : Option Nat} {ds : List D} (P : LH → Prop) (Q : D → Prop) (hs : ∀ L, P L → srcOk src ds L) (hP : ∀ L, P L → L.length = n) : ∀ (r acc : List D) (L : LH), P L → acc.length + r.length ≤ 16777216 →
    (∀ x ∈ r, ∀ L, P L → ∃ o L', P L' ∧ (∀ y, o = some y → Q y) ∧ F (sl.set i (some (.val x))) L = .ok o L') →
    ∃ ys L', P L' ∧ (∀ y ∈ ys, Q y) ∧ ys.length ≤ r.length ∧ compGo F (.nm i) sl src ds n r acc L = .ok (acc ++ ys) L'
  | [], acc, L, h, _, _ => ⟨[], L, h, by simp, by simp, by
    simp only [compGo]
    rw [if_pos (hs L h)]
    simp⟩
  | x :: r, acc, L, h, hl, hF => by
    simp only [List.length_cons] at hl
    obtain ⟨o, L1, p1, q1, e1⟩ := hF x (by simp) L h
    simp only [compGo]
    rw [if_pos (hs L h)]
    simp only [store, e1]
    cases o with
    | none =>
      obtain ⟨ys, L2, p2, q2, l2, e2⟩ := comp_ex P Q hs hP r acc L1 p1 (by omega) (fun y hy => hF y (by simp [hy]))
      refine ⟨ys, L2, p2, q2, by simp; omega, ?_⟩
      simp only
      rw [if_pos (hP L1 p1), e2]
    | some y =>
      obtain ⟨ys, L2, p2, q2, l2, e2⟩ := comp_ex P Q hs hP r (acc ++ [y]) L1 p1 (by simp; omega) (fun z hz => hF z (by simp [hz]))
      refine ⟨y :: ys, L2, p2, fun z hz => ?_, by simp; omega, ?_⟩
      · rcases List.mem_cons.mp hz with rfl | hz
        · exact q1 _ rfl
        · exact q2 z hz
      · have hb : (decide (L1.length = n) && decide (acc.length < lim)) = true := by
          simp only [Bool.and_eq_true, decide_eq_true_eq]
          exact ⟨hP L1 p1, by show acc.length < 16777216; omega⟩
        simp only
        rw [if_pos hb, e2]
        simp
theorem map_of {α : Type} (f : α → D) (P : α → Prop) : ∀ ys : List D, (∀ y ∈ ys, ∃ w, P w ∧ y = f w) → ∃ ws : List α, ys = ws.map f ∧ ∀ w ∈ ws, P w
  | [], _ => ⟨[], rfl, by simp⟩
  | y :: ys, h => by
    obtain ⟨w, p, e⟩ := h y (by simp)
    obtain ⟨ws, e2, p2⟩ := map_of f P ys (fun z hz => h z (by simp [hz]))
    exact ⟨w :: ws, by rw [e, e2]; rfl, fun v hv => by
      rcases List.mem_cons.mp hv with rfl | hv
      · exact p
      · exact p2 v hv⟩
/-- a loop that keeps something -/
theorem for_inv {body : SL → LH → RS} {i : Nat} {ds : List D} (J : SL → LH → Prop) : ∀ (r : List D) (sl : SL) (L : LH), J sl L → (∀ x ∈ r, ∀ sl L, J sl L → ∃ sl2 L2, body (sl.set i (some (.val x))) L = .nx sl2 L2 ∧ J sl2 L2) → ∃ sl2 L2, forGo body (.nm i) none ds r sl L = .nx sl2 L2 ∧ J sl2 L2
  | [], sl, L, h, _ => ⟨sl, L, by simp, h⟩
  | x :: r, sl, L, h, hb => by
    obtain ⟨sl1, L1, e1, j1⟩ := hb x (by simp) sl L h
    obtain ⟨sl2, L2, e2, j2⟩ := for_inv J r sl1 L1 j1 (fun y hy => hb y (by simp [hy]))
    exact ⟨sl2, L2, by rw [for_1, e1, RS.turn_nx, e2], j2⟩
theorem c_some (K : Nat) (s : St) (R : LH) (ws : List (List Nat)) (hl : ws.length ≤ 10000) :
    ∃ (vs : List (List Nat)) (s' : St) (r : V2) (L' : LH), vs.length ≤ ws.length ∧ (∀ v ∈ vs, v ∈ ws) ∧ call ld.pg false (K + 4) 54 [.ref 0, .val (.tup (ws.map D.str))] (s.o :: R) = .ok r L' ∧ frzd false (R.length + 1) r L' = .ok (.val (.lst (vs.map D.str))) (s'.o :: R) := by
  have hm : smallM (ws.length : Int) = true := smallM_of (by omega)
  have hl2 : ws.length ≤ 16777216 := by omega
  rw [run__law_some]
  by_cases h0 : s.tk 6 = 0
  · exact ⟨[], s.nx 6, .val (.lst []), (s.nx 6).o :: R, by simp, by simp, by simp [b__law_some, BI.calm, h0, brP_pos], by simp⟩
  · have h0' : ¬ (s.tk 6 : Int) = 0 := by omega
    by_cases he : ws = []
    · subst he
      exact ⟨[], s.nx 6, .val (.lst []), (s.nx 6).o :: R, by simp, by simp, by simp [b__law_some, BI.calm, h0, brP_pos], by simp⟩
    · have hp : 0 < ws.length := List.length_pos_iff.mpr he
      have he' : ¬ (ws.length : Int) = 0 := by omega
      by_cases h1 : s.tk 6 = 1
      · exact ⟨ws, s.nx 6, .val (.lst (ws.map D.str)), (s.nx 6).o :: R, by simp, by simp, by simp [b__law_some, BI.calm, h1, he, he', hl2, brP_pos, brP_neg], by simp⟩
      · have h1' : ¬ (s.tk 6 : Int) = 1 := by omega
        by_cases h2 : s.tk 6 = 2
        · have hk := tk_lt' (s.nx 6) ws.length hp
          have hg : (ws.map D.str)[(s.nx 6).tk ws.length]? = some (.str ws[(s.nx 6).tk ws.length]) := by simp [hk]
          have hpop := popF_n (ws.map D.str) _ _ hg
          have hr : smallI ((s.nx 6).tk ws.length : Int) = true := small_of (by omega)
          refine ⟨ws.eraseIdx ((s.nx 6).tk ws.length), (s.nx 6).nx ws.length, .ref (R.length + 1), ((s.nx 6).nx ws.length).o :: (R ++ [.lst ((ws.eraseIdx ((s.nx 6).tk ws.length)).map D.str)]), by rw [List.length_eraseIdx_of_lt hk]; omega, fun v hv => List.mem_of_mem_eraseIdx hv, ?_, by simp⟩
          rw [← erase_map]
          simp [b__law_some, BI.calm, h2, he, he', hl2, hm, hr, hpop, brP_pos, brP_neg]
        · have h2' : ¬ (s.tk 6 : Int) = 2 := by omega
          by_cases h3 : s.tk 6 = 3
          · have hpk := pick_t K (s.nx 6) (ws.map D.str) R (by simpa using he) (by simp; omega)
            rw [pk_map _ _ _ [] _ he, List.length_map] at hpk
            exact ⟨[(s.nx 6).pk ws []], (s.nx 6).nx ws.length, .val (.lst [.str ((s.nx 6).pk ws [])]), ((s.nx 6).nx ws.length).o :: R, by simp; omega, by simp; exact pk_mem _ _ _ he, by simp [b__law_some, BI.calm, h3, he, he', hpk, brP_pos, brP_neg], by simp⟩
          · have h3' : ¬ (s.tk 6 : Int) = 3 := by omega
            obtain ⟨ys, L2, ⟨s2, rfl⟩, q2, l2, e2⟩ := comp_ex (F := turnF (cl ld.pg false (K + 3)) [.cmp .eq (.call false 3 [.v 0, .c (.int 2)] []) (.c (.int 1))] p__law_some_1) (i := 4) (n := R.length + 1) (sl := [some (.ref 0), some (.val (.tup (ws.map D.str))), some (.val (.int (s.tk 6 : Nat))), none, none]) (src := none) (ds := ws.map D.str) (fun L => ∃ s : St, L = s.o :: R) (fun y => ∃ w, w ∈ ws ∧ y = .str w) (fun _ _ => trivial) (fun L ⟨s, e⟩ => by rw [e]; simp) (ws.map D.str) [] ((s.nx 6).o :: R) ⟨_, rfl⟩ (by simp; omega) (by
              rintro x hx _ ⟨s2, rfl⟩
              obtain ⟨w, hw, rfl⟩ := List.mem_map.mp hx
              by_cases ht : s2.tk 2 = 1
              · exact ⟨some (.str w), (s2.nx 2).o :: R, ⟨_, rfl⟩, fun y e => by cases e; exact ⟨w, hw, rfl⟩, by simp [p__law_some_1, ht]⟩
              · have ht' : ¬ (s2.tk 2 : Int) = 1 := by omega
                exact ⟨none, (s2.nx 2).o :: R, ⟨_, rfl⟩, (fun y e => by cases e), by simp [p__law_some_1, ht, ht']⟩)
            obtain ⟨vs, rfl, hv⟩ := map_of D.str (fun w => w ∈ ws) ys q2
            simp only [List.length_map] at l2
            have hv2 : vs.length ≤ 16777216 := by omega
            refine ⟨vs, s2, .val (.lst (vs.map D.str)), s2.o :: R, l2, hv, ?_, by simp⟩
            simp only [List.nil_append] at e2
            simp [b__law_some, BI.calm, h0, h1, h2, h3, h0', h1', h2', h3', he, he', brP_neg, compK_some, e2, hv2]
end Lw

set_option maxRecDepth 100000
set_option maxHeartbeats 4000000
namespace Lw
open PI PySem
def goodW (ws : List (List Nat)) : Prop := ∀ w ∈ ws, 1 ≤ w.length ∧ w.length ≤ 6
theorem wdL_good (kind at_ : Nat) (stem : List Nat) (h2 : 1 ≤ stem.length) (h3 : stem.length ≤ 6) (h4 : at_ < stem.length) : ∀ (m i : Nat) (s : St) (ws : List (List Nat)), goodW ws → goodW (wdL kind at_ stem m i s ws).1
  | 0, i, s, ws, h => h
  | m + 1, i, s, ws, h => by
    simp only [wdL]
    refine wdL_good kind at_ stem h2 h3 h4 m (i + 1) s.nmS _ fun w hw => ?_
    rcases List.mem_append.mp hw with z | z
    · exact h w z
    · rw [List.mem_singleton.mp z]
      obtain ⟨w0, w1, _⟩ := nm_ok s
      have := wdN_len kind at_ stem i s.nm w0 w1 h2 h3 h4
      rw [unl_len ws 26 _ this.1]
      exact this
theorem world_good (s : St) (l b : Int) : goodW (s.world l b) := by
  obtain ⟨w0, w1, _⟩ := nm_ok ((s.mnS l b).nx 4)
  have := wdL_good ((s.mnS l b).tk 4) ((s.wd1 l b).tk ((s.mnS l b).nx 4).nm.length) ((s.mnS l b).nx 4).nm w0 w1 (tk_lt' _ _ (by omega)) (s.mn l b).toNat 0 ((s.wd1 l b).nx ((s.mnS l b).nx 4).nm.length) [] (by intro w hw; cases hw)
  intro w hw
  exact this w ((ssort_perm _).mem_iff.mp hw)
theorem c_fresh (K : Nat) (s : St) (R : LH) (ws : List (List Nat)) (hg : goodW ws) (hl : ws.length ≤ 10000) :
    ∃ (w : List Nat) (s' : St), 1 ≤ w.length ∧ w.length ≤ 6 ∧ call ld.pg false (K + 5) 55 [.ref 0, .val (.tup (ws.map D.str))] (s.o :: R) = .ok (.val (.str w)) (s'.o :: R) := by
  have hu : ∀ (w : List Nat) (L : LH), 1 ≤ w.length → w.length ≤ 100 → call ld.pg false (K + 4) 36 [.val (.str w), .val (.tup (ws.map D.str))] L = .ok (.val (.str (unl 26 w ws))) L := fun w L h1 h2 => c_unlike (K + 2) w _ ws L (fun w => by simp) h1 h2
  obtain ⟨w0, w1, _⟩ := nm_ok s
  rw [run__law_fresh]
  by_cases h0 : s.nmS.tk 3 = 0
  · by_cases he : ws = []
    · subst he
      have hu' := hu s.nm ((s.nmS.nx 3).o :: R) w0 (by omega)
      refine ⟨unl 26 s.nm [], s.nmS.nx 3, by rw [unl_len _ _ _ w0]; exact w0, by rw [unl_len _ _ _ w0]; exact w1, ?_⟩
      simp at hu'
      simp [b__law_fresh, BI.calm, h0, brP_neg, hu']
    · have hp : 0 < ws.length := List.length_pos_iff.mpr he
      have hp' : (0 : Int) < ws.length := by omega
      have hpk := pick_t (K + 1) (s.nmS.nx 3) (ws.map D.str) R (by simpa using he) (by simp; omega)
      rw [pk_map _ _ _ [] _ he, List.length_map] at hpk
      have hgw := hg _ (pk_mem (s.nmS.nx 3) ws [] he)
      have hu' := hu ((s.nmS.nx 3).pk ws []) (((s.nmS.nx 3).nx ws.length).o :: R) hgw.1 (by omega)
      exact ⟨unl 26 ((s.nmS.nx 3).pk ws []) ws, (s.nmS.nx 3).nx ws.length, by rw [unl_len _ _ _ hgw.1]; exact hgw.1, by rw [unl_len _ _ _ hgw.1]; exact hgw.2, by simp [b__law_fresh, BI.calm, h0, hp, hp', brP_pos, brP_neg, hpk, hu']⟩
  · have h0' : ¬ (s.nmS.tk 3 : Int) = 0 := by omega
    by_cases h1 : s.nmS.tk 3 = 1
    · have h2 : 1 ≤ (s.nm.take 1).length ∧ (s.nm.take 1).length ≤ 6 := by simp; omega
      have hu' := hu (s.nm.take 1) ((s.nmS.nx 3).o :: R) h2.1 (by omega)
      exact ⟨unl 26 (s.nm.take 1) ws, s.nmS.nx 3, by rw [unl_len _ _ _ h2.1]; exact h2.1, by rw [unl_len _ _ _ h2.1]; exact h2.2, by simp [b__law_fresh, BI.calm, h1, brP_pos, brP_neg, hu']⟩
    · have h1' : ¬ (s.nmS.tk 3 : Int) = 1 := by omega
      have hu' := hu s.nm ((s.nmS.nx 3).o :: R) w0 (by omega)
      exact ⟨unl 26 s.nm ws, s.nmS.nx 3, by rw [unl_len _ _ _ w0]; exact w0, by rw [unl_len _ _ _ w0]; exact w1, by simp [b__law_fresh, BI.calm, h0, h1, h0', h1', brP_neg, hu']⟩
theorem c_bent (K : Nat) (s : St) (R : LH) (ws : List (List Nat)) (hg : goodW ws) (hl : ws.length ≤ 10000) :
    ∃ (vs : List (List Nat)) (s' : St), vs.length ≤ 12 ∧ call ld.pg false (K + 6) 56 [.ref 0, .val (.tup (ws.map D.str))] (s.o :: R) = .ok (.val (.tup (vs.map D.str))) (s'.o :: R) := by
  obtain ⟨us, s1, r, L', u1, u2, e1, e2⟩ := c_some (K + 1) s R ws hl
  have hc : cutD (us.map D.str) none (some 10) = (us.take 10).map D.str := by rw [cut_lit (us.map D.str) 10 10 rfl, List.map_take]
  have hu : (us.take 10).length ≤ 10 := by simp; omega
  generalize us.take 10 = row at hc hu
  have hm : smallM ((row.length : Int) + 1) = true := smallM_of (by omega)
  have hat := tk_lt (s1.nx 6) ((row.length : Int) + 1) (by omega)
  generalize hA : (s1.nx 6).tk ((row.length : Int) + 1) = at_ at hat
  have hI : smallI (at_ : Int) = true := small_of (by omega)
  generalize hS : (s1.nx 6).nx ((row.length : Int) + 1) = s3
  have hk6 := tk_lt s1 6 (by decide)
  generalize hk : s1.tk 6 = kind at hk6
  have l1 : row.length ≤ 16777216 := by omega
  have l2 : row.length < 16777216 := by omega
  rw [run__law_bent_lot]
  have k0 : kind = 0 ∨ kind = 1 ∨ kind = 2 ∨ kind = 3 ∨ kind = 4 ∨ kind = 5 := by omega
  rcases k0 with rfl | rfl | rfl | rfl | rfl | rfl
  · refine ⟨row.take at_ ++ [s3.bad] ++ row.drop at_, s3.badS, by simp; omega, ?_⟩
    have l3 : min at_ row.length + (row.length - at_ + 1) ≤ 16777216 := by omega
    simp [b__law_bent_lot, BI.calm, e1, e2, hc, l1, l2, hk, hm, hA, hS, hI, brP_pos, brP_neg, List.map_take, List.map_drop, l3]
  · have hq := tk_lt s3 ((row.length : Int) + 1) (by omega)
    generalize hB : s3.tk ((row.length : Int) + 1) = q at hq
    generalize hS4 : s3.nx ((row.length : Int) + 1) = s4
    obtain ⟨w, s5, f1, f2, f3⟩ := c_fresh K s4 (R ++ [.lst (row.map D.str)]) ws hg hl
    have hJ : smallI (q : Int) = true := small_of (by omega)
    refine ⟨row.take q ++ [w] ++ row.drop q, s5, by simp; omega, ?_⟩
    have l3 : min q row.length + (row.length - q + 1) ≤ 16777216 := by omega
    simp [b__law_bent_lot, BI.calm, e1, e2, hc, l1, l2, hk, hm, hA, hS, hB, hS4, hJ, f3, brP_pos, brP_neg, List.map_take, List.map_drop, l3]
  · obtain ⟨w, s5, f1, f2, f3⟩ := c_fresh K s3 (R ++ [.lst (row.map D.str)]) ws hg hl
    refine ⟨ssort (row ++ [w]), s5, by simp; omega, ?_⟩
    have l3 : row.length + 1 ≤ 16777216 := by omega
    have hcat : row.map D.str ++ [.str w] = (row ++ [w]).map D.str := by simp
    simp [b__law_bent_lot, BI.calm, e1, e2, hc, l1, l2, hk, hm, hA, hS, f3, brP_pos, brP_neg, hcat, l3, -List.map_append]
  · by_cases he : row = []
    · subst he
      refine ⟨[], s3, by simp, ?_⟩
      simp at hm hA hS hc
      simp [b__law_bent_lot, BI.calm, e1, e2, hc, hk, hA, hS, brP_pos, brP_neg]
    · have h3 : 0 < row.length := List.length_pos_iff.mpr he
      have h3' : (0 : Int) < row.length := by omega
      have hp := pick_r (K + 2) s3 (row.map D.str) (R ++ [.lst (row.map D.str)]) R.length (by simp) (by simpa using he) (by simp; omega)
      rw [pk_map _ _ _ [] _ he, List.length_map] at hp
      refine ⟨row.take at_ ++ [s3.pk row []] ++ row.drop at_, s3.nx row.length, by simp; omega, ?_⟩
      have l3 : min at_ row.length + (row.length - at_ + 1) ≤ 16777216 := by omega
      simp [b__law_bent_lot, BI.calm, e1, e2, hc, l1, l2, hk, hm, hA, hS, hI, hp, h3, h3', brP_pos, brP_neg, List.map_take, List.map_drop, l3]
  · refine ⟨row.reverse, s3, by simp; omega, ?_⟩
    simp [b__law_bent_lot, BI.calm, e1, e2, hc, l1, l2, hk, hm, hA, hS, hI, brP_pos, brP_neg]
  · have hrow1 : (row.take at_ ++ [s3.bad] ++ row.drop at_).length = row.length + 1 := by simp; omega
    have hmap : (row.map D.str).take at_ ++ .str s3.bad :: (row.map D.str).drop at_ = (row.take at_ ++ [s3.bad] ++ row.drop at_).map D.str := by simp [List.map_take, List.map_drop]
    generalize row.take at_ ++ [s3.bad] ++ row.drop at_ = row1 at hrow1 hmap
    have hm1 : smallM ((row1.length : Int) + 1) = true := smallM_of (by omega)
    have hq := tk_lt s3.badS ((row1.length : Int) + 1) (by omega)
    generalize hB : s3.badS.tk ((row1.length : Int) + 1) = q at hq
    generalize hS4 : s3.badS.nx ((row1.length : Int) + 1) = s4
    obtain ⟨w, s5, f1, f2, f3⟩ := c_fresh K s4 (R ++ [.lst (row1.map D.str)]) ws hg hl
    have hJ : smallI (q : Int) = true := small_of (by omega)
    have hmap2 : (row1.map D.str).take q ++ .str w :: (row1.map D.str).drop q = (row1.take q ++ [w] ++ row1.drop q).map D.str := by simp [List.map_take, List.map_drop]
    have hrow2 : (row1.take q ++ [w] ++ row1.drop q).length ≤ 12 := by simp; omega
    generalize row1.take q ++ [w] ++ row1.drop q = row2 at hmap2 hrow2
    refine ⟨row2, s5, hrow2, ?_⟩
    have l4 : row1.length < 16777216 := by omega
    have l5 : row2.length ≤ 16777216 := by omega
    simp [b__law_bent_lot, BI.calm, e1, e2, hc, l1, l2, l4, l5, hk, hm, hm1, hA, hS, hB, hS4, hI, hJ, f3, brP_pos, brP_neg, hmap, hmap2]
end Lw

set_option maxRecDepth 100000
set_option maxHeartbeats 4000000
namespace Lw
open PI PySem
theorem c_crowd (k : Nat) (s : St) (R : LH) (m : Nat) (hm : m ≤ 1000) : call ld.pg false (k + 5) 41 [.ref 0, .val (.int (m : Nat))] (s.o :: R) = .ok (.ref (R.length + 1)) (s.crowdS.o :: (R ++ [.lst ((s.crowd m).map D.str)])) := by
  obtain ⟨d, lp⟩ := crowd_loop 1000 (by decide) (k + 4) R (iup 0 m) (s.nm.take 4) (by simp; omega) (s.nmS.tk 26) ((s.nmS.nx 26).tk 26) (some (.ref 0)) (some (.val (.int (m : Nat)))) m 0 s.crowdS [] none (by simp; omega)
  have eS : (s.nmS.nx 26).nx 26 = s.crowdS := rfl
  have hI : smallI (m : Int) = true := small_of (by omega)
  simp only [List.map_nil, List.nil_append] at lp
  rw [run__law_crowd]
  simp [b__law_crowd, eS, lp, hI, St.crowd, crL, List.range_eq_range']
theorem lets_inj (i j : Nat) (hi : i < 26) (hj : j < 26) (h : lets.getD i 0 = lets.getD j 0) : i = j := by
  have : ∀ i < 26, lets.getD i 0 = 97 + i := by decide
  rw [this i hi, this j hj] at h
  omega
theorem lets_mem (i : Nat) (hi : i < 26) : lets.getD i 0 ∈ lets := by
  have : ∀ i < 26, lets.getD i 0 ∈ lets := by decide
  exact this i hi
theorem crowd_nodup (s : St) (m : Nat) (hm : m ≤ 600) : (s.crowd m).Nodup := by
  unfold St.crowd crL
  rw [List.nodup_iff_pairwise_ne, List.pairwise_map]
  refine List.Pairwise.imp_of_mem ?_ (List.nodup_range (n := m))
  intro i j hi hj hne e
  rw [List.mem_range] at hi hj
  have e1 := List.append_inj' e rfl
  have e2 := List.append_inj' e1.1 rfl
  have a1 := lets_inj _ _ (Nat.mod_lt _ (by decide)) (Nat.mod_lt _ (by decide)) (List.cons.inj e1.2).1
  have a2 := lets_inj _ _ (Nat.mod_lt _ (by decide)) (Nat.mod_lt _ (by decide)) (List.cons.inj e2.2).1
  omega
theorem crowd_plc (s : St) (m : Nat) : ∀ w ∈ s.crowd m, plc w = true := by
  intro w hw
  unfold St.crowd crL at hw
  obtain ⟨i, _, rfl⟩ := List.mem_map.mp hw
  obtain ⟨w0, w1, w2⟩ := nm_ok s
  unfold plc
  simp only [Bool.and_eq_true, decide_eq_true_eq, List.all_eq_true]
  refine ⟨⟨by simp, by simp; omega⟩, fun c hc => ?_⟩
  rcases List.mem_append.mp hc with z | z
  · rcases List.mem_append.mp z with z | z
    · exact w2 c (List.mem_of_mem_take z)
    · rw [List.mem_singleton.mp z]; exact lets_mem _ (Nat.mod_lt _ (by decide))
  · rw [List.mem_singleton.mp z]; exact lets_mem _ (Nat.mod_lt _ (by decide))
theorem badA_no {ws : List (List Nat)} (h : ∀ w ∈ ws, plc w = true) : badA ws = none := by
  unfold badA
  rw [List.find?_eq_none]
  intro w hw
  simp [h w hw]
theorem dupA_no : ∀ (r a : List (List Nat)), (a ++ r).Nodup → dupA a r = none
  | [], a, _ => rfl
  | w :: r, a, h => by
    simp only [dupA]
    have hn : w ∉ a := by
      rw [List.nodup_append] at h
      exact fun hw => h.2.2 w hw w (by simp) rfl
    rw [if_neg hn]
    exact dupA_no r _ (by simpa using h)
theorem c_great (K : Nat) (s : St) (R : LH) (ws : List (List Nat)) (hl : ws.length ≤ 10000) :
    ∃ s' : St, call ld.pg false (K + 8) 65 [.ref 0, .val (.tup (ws.map D.str))] (s.o :: R) = .ok (.val (.bl true)) (s'.o :: R) := by
  have hq := tk_lt s 28 (by decide)
  have hc := c_crowd (K + 2) (s.nx 28) R (13 + s.tk 28) (by omega)
  have e13 : ((13 + s.tk 28 : Nat) : Int) = 13 + (s.tk 28 : Int) := by omega
  rw [e13] at hc
  have hlen : ((s.nx 28).crowd (13 + s.tk 28)).length ≤ 41 := by rw [crowd_len]; omega
  have hnd := crowd_nodup (s.nx 28) (13 + s.tk 28) (by omega)
  have hpl := crowd_plc (s.nx 28) (13 + s.tk 28)
  generalize (s.nx 28).crowd (13 + s.tk 28) = C at hc hlen hnd hpl
  generalize (s.nx 28).crowdS = s2 at hc
  have hlot := c_lot (K + 4) (s2.o :: R) (.val (.lst (C.map D.str))) C .lst (by omega)
  unfold lotR at hlot
  rw [badA_no hpl, dupA_no C [] (by simpa using hnd)] at hlot
  simp only at hlot
  have hsl : (ssort C).length ≤ 10000 := by simp; omega
  have hsame := same_refl 1 (.tup ((ssort C).map D.str)) (plain_strs _ hsl) (K + 5) (s2.o :: R)
  have ht := c_tupleRight K (s2.o :: R) (ssort C) [none, some (ssort C)] 12 hsl
  have hw := c_wordsRight (K + 1) (s2.o :: R) C [some (ssort C), some ws]
  simp [optD] at ht hw
  have l1 : C.length ≤ 16777216 := by omega
  refine ⟨s2, ?_⟩
  rw [run__law_great_right]
  simp [b__law_great_right, BI.calm, hc, hlot, hsame, ht, hw, l1]
end Lw

set_option maxRecDepth 100000
set_option maxHeartbeats 4000000
namespace Lw
open PI PySem
def tupD (ws : List (List Nat)) : D := .tup (ws.map D.str)
/-- the raw tuples -/
theorem raws (K : Nat) (sl : SL) (s : St) (R : LH) (m : Nat) (hm : m ≤ 100) (h1 : ∀ x, (sl.set 10 (some (.val x)))[1]? = some (some (.ref 0))) :
    ∃ (vs : List (List Nat)) (s' : St), vs.length ≤ 100 ∧ compK (turnF (cl ld.pg false (K + 6)) [] p_law_1) false (.nm 10) sl none (some (iup 0 m)) (s.o :: R) = .ok (.val (.lst (vs.map D.str))) (s'.o :: R) := by
  obtain ⟨ys, L2, ⟨s2, rfl⟩, q2, l2, e2⟩ := comp_ex (F := turnF (cl ld.pg false (K + 6)) [] p_law_1) (i := 10) (n := R.length + 1) (sl := sl) (src := none) (ds := iup 0 m) (fun L => ∃ s : St, L = s.o :: R) (fun y => ∃ w : List Nat, True ∧ y = .str w) (fun _ _ => trivial) (fun L ⟨s, e⟩ => by rw [e]; simp) (iup 0 m) [] (s.o :: R) ⟨_, rfl⟩ (by simp; omega) (by
    rintro x hx _ ⟨s2, rfl⟩
    exact ⟨some (.str s2.raw), s2.rawS.o :: R, ⟨_, rfl⟩, fun y e => by cases e; exact ⟨_, trivial, rfl⟩, by simp [p_law_1, h1]⟩)
  obtain ⟨vs, rfl, hv⟩ := map_of D.str (fun _ => True) ys q2
  simp only [List.length_map, iup_len] at l2
  refine ⟨vs, s2, by omega, ?_⟩
  have hv2 : vs.length ≤ 16777216 := by omega
  rw [compK_some]
  simp only [List.length_cons]
  simp only [List.nil_append] at e2
  rw [e2]
  simp [hv2]
theorem k02_rows (K : Nat) (W O : List (List Nat)) (hW : goodW W) (hO : goodW O) (lW : W.length ≤ 100) (lO : O.length ≤ 100) (x y z : Option V2) (k r w a : Option V2) (s : St) (rows : List (List (List Nat))) (hr : rows.length ≤ 100) (hrs : ∀ v ∈ rows, v.length ≤ 100) :
    ∃ (rows' : List (List (List Nat))) (s' : St), rows'.length = rows.length + 3 ∧ (∀ v ∈ rows', v.length ≤ 100) ∧
      execs (cl ld.pg false (K + 6)) p_law_2 [x, some (.ref 0), some (.val (tupD W)), some (.val (tupD O)), y, z, some (.ref 1), k, r, w, a] [s.o, .lst (rows.map tupD)] = .nx [x, some (.ref 0), some (.val (tupD W)), some (.val (tupD O)), y, z, some (.ref 1), k, r, w, a] [s'.o, .lst (rows'.map tupD)] := by
  have hm := mn_le s 0 12
  have hI : smallI (s.mn 0 12) = true := small_of (by omega)
  obtain ⟨v1, s1, q1, e1⟩ := raws K [x, some (.ref 0), some (.val (tupD W)), some (.val (tupD O)), y, z, some (.ref 1), k, r, w, a] (s.mnS 0 12) [.lst (rows.map tupD)] (s.mn 0 12).toNat (by omega) (fun _ => rfl)
  obtain ⟨v2, s2, q2, e2⟩ := c_bent K s1 [.lst ((rows ++ [v1]).map tupD)] W hW (by omega)
  obtain ⟨v3, s3, r3, L3, q3, _, e3, e3'⟩ := c_some (K + 2) s2 [.lst ((rows ++ [v1, v2]).map tupD)] O (by omega)
  refine ⟨rows ++ [v1, v2, v3], s3, by simp, ?_, ?_⟩
  · intro v hv
    rcases List.mem_append.mp hv with z | z
    · exact hrs v z
    · simp at z
      rcases z with rfl | rfl | rfl <;> omega
  · have l0 : v1.length ≤ 16777216 := by omega
    have l1 : rows.length < 16777216 := by omega
    have l2 : rows.length + 1 < 16777216 := by omega
    have l3 : rows.length + 2 < 16777216 := by omega
    have l4 : v3.length ≤ 16777216 := by omega
    have hT : ∀ v : List (List Nat), D.tup (v.map D.str) = tupD v := fun _ => rfl
    simp [hT] at e2 e3 e3'
    simp [p_law_2, BI.calm, hI, e1, e2, e3, e3', l0, l1, l2, l3, l4, hT]
end Lw

set_option maxRecDepth 100000
set_option maxHeartbeats 4000000
namespace Lw
open PI PySem
theorem rows_loop (K : Nat) (W O : List (List Nat)) (hW : goodW W) (hO : goodW O) (lW : W.length ≤ 100) (lO : O.length ≤ 100) (x y z r w a : Option V2) (ds : List D) : ∀ (m i : Nat) (k : Option V2) (s : St) (rows : List (List (List Nat))), rows.length + 3 * m ≤ 60 → (∀ v ∈ rows, v.length ≤ 100) →
    ∃ (rows' : List (List (List Nat))) (s' : St) (k' : Option V2), rows'.length ≤ 60 ∧ (∀ v ∈ rows', v.length ≤ 100) ∧
      forGo (fun s' L' => execs (cl ld.pg false (K + 6)) p_law_2 s' L') (.nm 7) none ds (iup i m) [x, some (.ref 0), some (.val (tupD W)), some (.val (tupD O)), y, z, some (.ref 1), k, r, w, a] [s.o, .lst (rows.map tupD)] = .nx [x, some (.ref 0), some (.val (tupD W)), some (.val (tupD O)), y, z, some (.ref 1), k', r, w, a] [s'.o, .lst (rows'.map tupD)]
  | 0, i, k, s, rows, h1, h2 => ⟨rows, s, k, by omega, h2, by simp⟩
  | m + 1, i, k, s, rows, h1, h2 => by
    obtain ⟨rows1, s1, l1, q1, e1⟩ := k02_rows K W O hW hO lW lO x y z (some (.val (.int i))) r w a s rows (by omega) h2
    obtain ⟨rows', s', k', l2, q2, e2⟩ := rows_loop K W O hW hO lW lO x y z r w a ds m (i + 1) (some (.val (.int i))) s1 rows1 (by omega) q1
    refine ⟨rows', s', k', l2, q2, ?_⟩
    rw [iup_s, for_1]
    simp only [List.set]
    rw [e1, RS.turn_nx, e2]
theorem right_loop (K : Nat) (L : LH) (x s1 W O z rs k : Option V2) (os : List (Option (List (List Nat)))) (n : Nat) (w a : Option V2) (ds : List D) : ∀ (rows : List (List (List Nat))) (r : Option V2), (∀ v ∈ rows, v.length ≤ 100) →
    ∃ r', forGo (fun s' L' => execs (cl ld.pg false (K + 7)) p_law_3 s' L') (.nm 8) none ds (rows.map tupD) [x, s1, W, O, some (.val (.lst (os.map optD))), some (.val (.int (n : Nat))), rs, k, r, w, a] L = .nx [x, s1, W, O, some (.val (.lst (os.map optD))), some (.val (.int (n : Nat))), rs, k, r', w, a] L
  | [], r, h => ⟨r, by simp⟩
  | v :: rows, r, h => by
    have ht := c_tupleRight K L v os n (by have := h v (by simp); omega)
    have tn : execs (cl ld.pg false (K + 7)) p_law_3 [x, s1, W, O, some (.val (.lst (os.map optD))), some (.val (.int (n : Nat))), rs, k, some (.val (tupD v)), w, a] L = .nx [x, s1, W, O, some (.val (.lst (os.map optD))), some (.val (.int (n : Nat))), rs, k, some (.val (tupD v)), w, a] L := by
      have ht' : call ld.pg false (K + 7) 63 [.val (tupD v), .val (.lst (os.map optD)), .val (.int (n : Nat))] L = .ok (.val (.bl true)) L := ht
      simp [p_law_3, ht']
    obtain ⟨r', e⟩ := right_loop K L x s1 W O z rs k os n w a ds rows (some (.val (tupD v))) (fun v hv => h v (by simp [hv]))
    refine ⟨r', ?_⟩
    rw [List.map_cons, for_1]
    simp only [List.set]
    rw [tn, RS.turn_nx, e]
theorem truth (ns : List Int) (hn : ns.length ≤ 63) : call ld.pg false 200 14 [.val (.lst (ns.map D.int))] [] = .ok (.val (.bl true)) [] := by
  have hst := c_store 198 ns hn
  have hw1 := c_world 194 (st0 ns) 0 12 [] (by decide) (by decide)
  have gW := world_good (st0 ns) 0 12
  have lW := world_len (st0 ns) 0 12
  have mW := mn_le (st0 ns) 0 12
  generalize hW : (st0 ns).world 0 12 = W at hw1 gW lW
  generalize (st0 ns).worldS 0 12 = s1 at hw1
  have hw2 := c_world 194 s1 0 12 [] (by decide) (by decide)
  have gO := world_good s1 0 12
  have lO := world_len s1 0 12
  have mO := mn_le s1 0 12
  generalize hO : s1.world 0 12 = O at hw2 gO lO
  generalize s1.worldS 0 12 = s2 at hw2
  have bW : W.length ≤ 12 := by omega
  have bO : O.length ≤ 12 := by omega
  have hT : ∀ v : List (List Nat), D.tup (v.map D.str) = tupD v := fun _ => rfl
  rw [run_law]
  have hb : b_law = b_law.take 4 ++ ((b_law.drop 4).take 1 ++ ((b_law.drop 5).take 1 ++ ((b_law.drop 6).take 1 ++ b_law.drop 7))) := rfl
  rw [hb, execs_app]
  have r1 : execs (cl ld.pg false 199) (b_law.take 4) [some (.val (.lst (ns.map D.int))), none, none, none, none, none, none, none, none, none, none] [] = .nx [some (.val (.lst (ns.map D.int))), some (.ref 0), some (.val (tupD W)), some (.val (tupD O)), some (.val (.lst [.non, .tup [], tupD W, tupD O])), none, none, none, none, none, none] [s2.o] := by
    simp [b_law, hst, hw1, hw2, hT]
  rw [r1, seqS_nx, execs_app]
  -- the bound
  obtain ⟨n, s3, r2⟩ : ∃ (n : Nat) (s3 : St), execs (cl ld.pg false 199) ((b_law.drop 4).take 1) [some (.val (.lst (ns.map D.int))), some (.ref 0), some (.val (tupD W)), some (.val (tupD O)), some (.val (.lst [.non, .tup [], tupD W, tupD O])), none, none, none, none, none, none] [s2.o] = .nx [some (.val (.lst (ns.map D.int))), some (.ref 0), some (.val (tupD W)), some (.val (tupD O)), some (.val (.lst [.non, .tup [], tupD W, tupD O])), some (.val (.int (n : Nat))), none, none, none, none, none] [s3.o] := by
    have hq := tk_lt (s2.nx 13) 4 (by decide)
    have hq' : (s2.nx 13).tk 4 = 0 ∨ (s2.nx 13).tk 4 = 1 ∨ (s2.nx 13).tk 4 = 2 ∨ (s2.nx 13).tk 4 = 3 := by omega
    have cast : ∀ j : Int, (if j > 0 then j else 0) = ((j.toNat : Nat) : Int) := fun j => by split <;> omega
    have lenT : ∀ (v : List (List Nat)) (L : LH), biV false .len [.val (tupD v)] L = .ok (.val (.int v.length)) L := fun v L => by simp [tupD]
    have mx : ∀ (j : Int) (L : LH), biV false .max [.val (.int 0), .val (.int j)] L = .ok (.val (.int ((j.toNat : Nat) : Int))) L := fun j L => by rw [← cast]; rfl
    rcases hq' with q | q | q | q
    · exact ⟨(W.length : Int).toNat, (s2.nx 13).nx 4, by simp [b_law, BI.calm, q, lenT, mx, -bi_max]⟩
    · exact ⟨((W.length : Int) - 1).toNat, (s2.nx 13).nx 4, by simp [b_law, BI.calm, q, lenT, mx, -bi_max]⟩
    · exact ⟨(O.length : Int).toNat, (s2.nx 13).nx 4, by simp [b_law, BI.calm, q, lenT, mx, -bi_max]⟩
    · exact ⟨((s2.tk 13 : Nat) : Int).toNat, (s2.nx 13).nx 4, by simp [b_law, BI.calm, q, lenT, mx, -bi_max]⟩
  rw [r2, seqS_nx, execs_app]
  -- the rows
  obtain ⟨v1, s4, q1, e1⟩ := c_bent 193 s3 [] W gW (by omega)
  obtain ⟨v2, s5, x2, L2, q2, _, e2, e2'⟩ := c_some 195 s4 [] W (by omega)
  obtain ⟨v3, s6, q3, e3⟩ := c_bent 193 s5 [] O gO (by omega)
  have t2 : v2.length ≤ 16777216 := by omega
  simp [hT] at e1 e2 e2' e3
  have r3 : execs (cl ld.pg false 199) ((b_law.drop 5).take 1) [some (.val (.lst (ns.map D.int))), some (.ref 0), some (.val (tupD W)), some (.val (tupD O)), some (.val (.lst [.non, .tup [], tupD W, tupD O])), some (.val (.int (n : Nat))), none, none, none, none, none] [s3.o] = .nx [some (.val (.lst (ns.map D.int))), some (.ref 0), some (.val (tupD W)), some (.val (tupD O)), some (.val (.lst [.non, .tup [], tupD W, tupD O])), some (.val (.int (n : Nat))), some (.ref 1), none, none, none, none] [s6.o, .lst ([[], W, v1, v2, v3, O].map tupD)] := by
    have h0 : tupD [] = .tup [] := rfl
    simp [b_law, BI.calm, e1, e2, e2', e3, t2, hT, h0]
  rw [r3, seqS_nx, execs_app]
  have mm := mn_le s6 0 3
  obtain ⟨rows, s7, k', lr, qr, elp⟩ := rows_loop 193 W O gW gO (by omega) (by omega) (some (.val (.lst (ns.map D.int)))) (some (.val (.lst [.non, .tup [], tupD W, tupD O]))) (some (.val (.int (n : Nat)))) none none none (iup 0 (s6.mn 0 3).toNat) (s6.mn 0 3).toNat 0 none (s6.mnS 0 3) [[], W, v1, v2, v3, O] (by simp; omega) (by
    intro v hv
    simp at hv
    rcases hv with rfl | rfl | rfl | rfl | rfl | rfl
    · simp
    all_goals omega)
  have hI : smallI (s6.mn 0 3) = true := small_of (by omega)
  have r4 : execs (cl ld.pg false 199) ((b_law.drop 6).take 1) [some (.val (.lst (ns.map D.int))), some (.ref 0), some (.val (tupD W)), some (.val (tupD O)), some (.val (.lst [.non, .tup [], tupD W, tupD O])), some (.val (.int (n : Nat))), some (.ref 1), none, none, none, none] [s6.o, .lst ([[], W, v1, v2, v3, O].map tupD)] = .nx [some (.val (.lst (ns.map D.int))), some (.ref 0), some (.val (tupD W)), some (.val (tupD O)), some (.val (.lst [.non, .tup [], tupD W, tupD O])), some (.val (.int (n : Nat))), some (.ref 1), k', none, none, none] [s7.o, .lst (rows.map tupD)] := by
    simp only [List.map_cons, List.map_nil] at elp ⊢
    simp [b_law, BI.calm, hI, elp]
  rw [r4, seqS_nx]
  -- the looks
  obtain ⟨r', e5⟩ := right_loop 192 [s7.o, .lst (rows.map tupD)] (some (.val (.lst (ns.map D.int)))) (some (.ref 0)) (some (.val (tupD W))) (some (.val (tupD O))) none (some (.ref 1)) k' [none, some [], some W, some O] n none none ((rows ++ rows.reverse).map tupD) (rows ++ rows.reverse) none (fun v hv => qr v (by simpa using hv))
  obtain ⟨w1, s8, p1, p2, e6⟩ := c_fresh 194 s7 [.lst (rows.map tupD)] W gW (by omega)
  have eb := c_bad 194 s8 [.lst (rows.map tupD)]
  have er := c_raw 193 s8.badS [.lst (rows.map tupD)]
  have hos : ([none, some [], some W, some O] : List (Option (List (List Nat)))).map optD = [.non, .tup [], tupD W, tupD O] := rfl
  rw [hos] at e5
  have wr := fun (L : LH) (us : List (List Nat)) => c_wordsRight 193 L us [none, some [], some W, some O]
  rw [hos] at wr
  obtain ⟨s9, eg⟩ := c_great 191 ((s8.badS.rawS).nx 8) [.lst (rows.map tupD)] W (by omega)
  have c1 := c_chkPlace 197 [((s8.badS.rawS).nx 8).o, .lst (rows.map tupD)] [97] none
  have c2 := c_chkLot 196 [((s8.badS.rawS).nx 8).o, .lst (rows.map tupD)] [[97]] none (by simp)
  have c3 := c_chkPlace 197 [s9.o, .lst (rows.map tupD)] [97] none
  have c4 := c_chkLot 196 [s9.o, .lst (rows.map tupD)] [[97]] none (by simp)
  have f1 : placeF [97] none = none := by decide
  have f2 : lotF [[97]] none = none := by decide
  rw [f1] at c1 c3
  rw [f2] at c2 c4
  simp only [optD, fltR_n, List.map_cons, List.map_nil] at c1 c2 c3 c4
  simp [hT] at e6 eg
  have hsq : ∀ (v : List (List Nat)) (L : LH), V2.seq? L (.val (tupD v)) = some (v.map D.str) := fun _ _ => rfl
  have z1 : W.length ≤ 16777216 := by omega
  have z2 : O.length ≤ 16777216 := by omega
  have z3 : W.length + 2 ≤ 16777216 := by omega
  have z4 : W.length + (O.length + 2) ≤ 16777216 := by omega
  have z5 : W.length + (O.length + 3) ≤ 16777216 := by omega
  have z6 : W.length + (2 + O.length) ≤ 16777216 := by omega
  have z7 : rows.length ≤ 16777216 := by omega
  have z8 : rows.length + rows.length ≤ 16777216 := by omega
  have hb7 : b_law.drop 7 = (b_law.drop 7).take 1 ++ ((b_law.drop 8).take 1 ++ b_law.drop 9) := rfl
  rw [hb7, execs_app]
  simp only [List.map_append, List.map_reverse] at e5
  have r5 : execs (cl ld.pg false 199) ((b_law.drop 7).take 1) [some (.val (.lst (ns.map D.int))), some (.ref 0), some (.val (tupD W)), some (.val (tupD O)), some (.val (.lst [.non, .tup [], tupD W, tupD O])), some (.val (.int (n : Nat))), some (.ref 1), k', none, none, none] [s7.o, .lst (rows.map tupD)] = .nx [some (.val (.lst (ns.map D.int))), some (.ref 0), some (.val (tupD W)), some (.val (tupD O)), some (.val (.lst [.non, .tup [], tupD W, tupD O])), some (.val (.int (n : Nat))), some (.ref 1), k', r', none, none] [s7.o, .lst (rows.map tupD)] := by
    simp [b_law, BI.calm, z7, z8, e5]
  rw [r5, seqS_nx, execs_app]
  have r6 : execs (cl ld.pg false 199) ((b_law.drop 8).take 1) [some (.val (.lst (ns.map D.int))), some (.ref 0), some (.val (tupD W)), some (.val (tupD O)), some (.val (.lst [.non, .tup [], tupD W, tupD O])), some (.val (.int (n : Nat))), some (.ref 1), k', r', none, none] [s7.o, .lst (rows.map tupD)] = .nx [some (.val (.lst (ns.map D.int))), some (.ref 0), some (.val (tupD W)), some (.val (tupD O)), some (.val (.lst [.non, .tup [], tupD W, tupD O])), some (.val (.int (n : Nat))), some (.ref 1), k', r', some (.val (.lst ((W ++ [w1, s8.bad] ++ O ++ [s8.badS.raw]).map D.str))), none] [s8.badS.rawS.o, .lst (rows.map tupD)] := by
    simp [b_law, BI.calm, z1, z2, z3, z4, z5, z6, hsq, e6, eb, er]
  rw [r6, seqS_nx]
  have hlw : (W ++ [w1, s8.bad] ++ O ++ [s8.badS.raw]).length ≤ 27 := by simp; omega
  generalize W ++ [w1, s8.bad] ++ O ++ [s8.badS.raw] = Wd at hlw
  have wr1 := wr [s8.badS.rawS.o, .lst (rows.map tupD)] (Wd ++ Wd.reverse)
  simp only [List.map_append, List.map_reverse] at wr1
  have y1 : Wd.length ≤ 16777216 := by omega
  have y2 : Wd.length + Wd.length ≤ 16777216 := by omega
  by_cases h8 : s8.badS.rawS.tk 8 = 0
  · simp [b_law, BI.calm, wr1, y1, y2, h8, eg, c3, c4]
  · simp [b_law, BI.calm, wr1, y1, y2, h8, c1, c2]
end Lw

set_option maxHeartbeats 0
namespace Lw
open PI PySem PySem.W PySem.Calls PyProof.Rows

end Lw
open Lw Lh PI PySem PySem.W PySem.Calls PyProof.Rows
theorem PySem.Challenge.cw_keepsapart_k02_checks_of_lots_holds : PySem.Challenge.rw_keepsapart_k02_checks_of_lots.Holds := by
  w_on; o_law
  refine HandSHeadRun.head_any (r := R) (q := qv) (H := hk) (ob := ob) (M := 20000) (loose := loose) (d := HandSHeadRun.topDef R.prog 65) (kwd := []) ob_eq (by kernel_rfl) (fun s => by kernel_rfl) hrun (by kernel_rfl) (by kernel_rfl) (by kernel_rfl) (by rfl) (by first | assumption | decide +kernel) (by decide +kernel) ⟨rfl, rfl, rfl, rfl, rfl, by decide +kernel⟩ ?hw ?hc
  case hw => w_witness2
  case hc =>
    refine L2.walk_ofE (l := PySem.Challenge.rw_keepsapart_k02_checks_of_lots) (n := 63) (k := 202) (x := "script") (CX := L2.CX0) rfl (by decide) (by kernel_rfl) ⟨rfl, by decide, by decide⟩ ?F (fun _ _ _ _ z => z)
    intro w mg fa h Y G hmg0
    obtain ⟨K, KX, c, nl, cb⟩ := Y
    have hmg : mg (ld.nm 14) = some (.ref fa) := by
      have e : (HandSHeadRun.topDef R.prog 65).name = ld.nm 14 := by kernel_rfl
      rw [← e]
      exact hmg0
    obtain ⟨fd, hb, hF⟩ := law_fn (P := PySem.Challenge.rw_keepsapart_k02_checks_of_lots.prog) (w := w) KX G c chk cb (k := 199) (e := ⟨14, f_law, N_law⟩) (List.mem_of_getElem? (i := 38) rfl) hmg (x := 20) rfl rfl truth
    refine ⟨K, fd, spLaw K, KX, hb, fun H a ns hl _ hS => ⟨a, ns, rfl, hS.resolve_right fun ⟨o, its, n, hk, hc, _⟩ => noList_ok nl hk hc, hl, fun _ => rfl⟩, fun base _ _ => hF base⟩
