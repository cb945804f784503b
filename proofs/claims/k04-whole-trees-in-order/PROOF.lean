import PyProof.Rows.All
import Wide.All
import OpenK.AllK
import Wide.FinOn
import HandS.ForMost
import HandS.ForExc
import HandS.IsInst
import HandS.Flow
import HandS.TupAny
import HandS.Steps
import HandS.TupMul
import HandS.TryOnly
import PyProof.MinMaxWalk
import PyProof.WalkInts
import KE.KMinKey
import HandS.SortKw
import KE.LtSeq
import KE.LtData
import HandS.Replace
import HandS.SetFor
import HandS.ReplaceList
import PySem.Challenge.RW_askwright_k04_whole_trees_in_order
set_option Elab.async false
set_option linter.all false
set_option maxRecDepth 100000
set_option autoImplicit false
set_option maxHeartbeats 4000000
/-! The data layer: plain data D, a store of cells, and what a piece of the text does to them. -/
namespace DL
open PySem PySem.Spec PyProof.Rows L2

/-- data: what a value is worth; obj n: the store's cell n -/
inductive D where
  | non | bl (b : Bool) | int (i : Int) | str (x : Str)
  | tup (ds : List D) | lst (ds : List D) | dct (ks : List Key) (ds : List D) | obj (n : Nat)
  /-- a list that is handed in -/
  | scr (ds : List D)

/-- a changing thing -/
inductive Cell where
  | lst (ds : List D) | dct (ks : List Key) (ds : List D) | ins (C : Str) (fs : List (Str × D))

abbrev Sto := List Cell
abbrev En := List (Option D)

inductive RE where
  | ok (d : D) (S : Sto) | exc (c : Str) (S : Sto) | bad
inductive RA where
  | ok (ds : List D) (S : Sto) | exc (c : Str) (S : Sto) | bad
inductive RB where
  | ok (b : Bool) (S : Sto) | exc (c : Str) (S : Sto) | bad
inductive RS' where
  | nx (e : En) (S : Sto) | ret (d : D) (S : Sto) | brk (e : En) (S : Sto) | cont (e : En) (S : Sto) | exc (c : Str) (e : En) (S : Sto) | bad
abbrev ME := En → Sto → RE
abbrev MA := En → Sto → RA
abbrev MB := En → Sto → RB
abbrev MS := En → Sto → RS'
abbrev MF := List D → Sto → RE

section
variable (K : PySem.W.Frag) (B : Addr → Prop)

/-- a tuple, a list that stands still -/
def FT (ι : List Addr) (H : Hp) (a : Addr) (xs : List V) : Prop :=
  (a ∉ ι ∧ ¬ B a ∧ Rd H a (.tup xs)) ∨
    ∃ (o : Obj) (its : Array Value) (n : Nat), K.lookup a = some o ∧ o.cls = .type "tuple" ∧ o.data = .seq its n ∧ its.size ≤ sizeLine ∧ Vals xs its.toList
def FL (ι : List Addr) (H : Hp) (a : Addr) (xs : List V) : Prop := a ∉ ι ∧ ¬ B a ∧ H a = some (.lst xs)

/-- .. or an object of the module -/
def FS (ι : List Addr) (H : Hp) (a : Addr) (xs : List V) : Prop := (a ∉ ι ∧ ¬ B a ∧ Rd H a (.lst xs)) ∨
    ∃ (o : Obj) (its : Array Value) (n : Nat), K.lookup a = some o ∧ o.cls = .type "list" ∧ o.dict = none ∧ o.data = .seq its n ∧ its.size ≤ sizeLine ∧ Vals xs its.toList

mutual
def RD (ι : List Addr) (H : Hp) : D → V → Prop
  | .non, v => v = .non
  | .bl b, v => v = .bl b
  | .int i, v => v = .int i
  | .str x, v => v = .str x
  | .tup ds, v => ∃ a xs, v = .ref a ∧ FT K B ι H a xs ∧ RDs ι H ds xs
  | .lst ds, v => ∃ a xs, v = .ref a ∧ FL B ι H a xs ∧ RDs ι H ds xs
  | .dct ks ds, v => ∃ a xs, v = .ref a ∧ a ∉ ι ∧ ¬ B a ∧ H a = some (.dK (ks.zip xs)) ∧ ks.length = xs.length ∧ RDs ι H ds xs
  | .obj n, v => ∃ a, v = .ref a ∧ ι[n]? = some a
  | .scr ds, v => ∃ a xs, v = .ref a ∧ FS K B ι H a xs ∧ RDs ι H ds xs
def RDs (ι : List Addr) (H : Hp) : List D → List V → Prop
  | [], vs => vs = []
  | d :: ds, vs => ∃ v r, vs = v :: r ∧ RD ι H d v ∧ RDs ι H ds r
end
end

/-- what a step leaves as it was -/
structure Fr (ι ι' : List Addr) (H H' : Hp) : Prop where
  pre : ∃ l, ι' = ι ++ l ∧ ∀ a ∈ l, a ∉ ι ∧ H a = none
  st : ∀ a o, H a = some o → a ∉ ι → H' a = some o

theorem Fr.same {ι : List Addr} {H H' : Hp} (h : Same H H') : Fr ι ι H H' := ⟨⟨[], by simp, by simp⟩, fun a o e _ => h a o e⟩
theorem Fr.refl {ι : List Addr} {H : Hp} : Fr ι ι H H := Fr.same fun _ _ e => e
theorem Fr.trans {ι ι' ι'' : List Addr} {H H' H'' : Hp} (f : Fr ι ι' H H') (g : Fr ι' ι'' H' H'') : Fr ι ι'' H H'' := by
  obtain ⟨⟨l, e, p⟩, s⟩ := f
  obtain ⟨⟨l', e', p'⟩, s'⟩ := g
  subst e e'
  have hl : ∀ a o, H a = some o → a ∉ ι → a ∉ ι ++ l := fun a o h n m => by
    rcases List.mem_append.mp m with m | m
    · exact n m
    · rw [(p a m).2] at h; cases h
  refine ⟨⟨l ++ l', by simp, fun a m => ?_⟩, fun a o h n => s' a o (s a o h n) (hl a o h n)⟩
  rcases List.mem_append.mp m with m | m
  · exact p a m
  · have hn : a ∉ ι := fun z => (p' a m).1 (List.mem_append_left _ z)
    refine ⟨hn, ?_⟩
    cases q : H a with
    | none => rfl
    | some o =>
      have := s a o q hn
      rw [(p' a m).2] at this; cases this
theorem Fr.sub {ι ι' : List Addr} {H H' : Hp} (f : Fr ι ι' H H') {a : Addr} (h : a ∈ ι) : a ∈ ι' := by
  obtain ⟨⟨l, rfl, _⟩, _⟩ := f; exact List.mem_append_left _ h
theorem Fr.get {ι ι' : List Addr} {H H' : Hp} (f : Fr ι ι' H H') {n : Nat} {a : Addr} (h : ι[n]? = some a) : ι'[n]? = some a := by
  obtain ⟨⟨l, rfl, _⟩, _⟩ := f
  rw [List.getElem?_append_left (List.getElem?_eq_some_iff.mp h).1]; exact h
theorem Fr.out {ι ι' : List Addr} {H H' : Hp} (f : Fr ι ι' H H') {a : Addr} {o : HO} (h : H a = some o) (n : a ∉ ι) : a ∉ ι' := by
  obtain ⟨⟨l, rfl, p⟩, _⟩ := f
  intro m
  rcases List.mem_append.mp m with m | m
  · exact n m
  · rw [(p a m).2] at h; cases h
theorem Fr.rd {ι ι' : List Addr} {H H' : Hp} (f : Fr ι ι' H H') {a : Addr} {u : HO} (h : Rd H a u) (n : a ∉ ι) : a ∉ ι' ∧ Rd H' a u := by
  rcases h with h | ⟨o, h⟩
  · exact ⟨f.out h n, .inl (f.st _ _ h n)⟩
  · exact ⟨f.out h n, .inr ⟨o, f.st _ _ h n⟩⟩

section
variable {K : PySem.W.Frag} {B : Addr → Prop}
theorem FT.fr {ι ι' : List Addr} {H H' : Hp} {a : Addr} {xs : List V} (f : Fr ι ι' H H') : FT K B ι H a xs → FT K B ι' H' a xs
  | .inl ⟨h1, h2, h3⟩ => .inl ⟨(f.rd h3 h1).1, h2, (f.rd h3 h1).2⟩
  | .inr h => .inr h
theorem FL.fr {ι ι' : List Addr} {H H' : Hp} {a : Addr} {xs : List V} (f : Fr ι ι' H H') : FL B ι H a xs → FL B ι' H' a xs
  | ⟨h1, h2, h3⟩ => ⟨f.out h3 h1, h2, f.st _ _ h3 h1⟩
theorem FS.fr {ι ι' : List Addr} {H H' : Hp} {a : Addr} {xs : List V} (f : Fr ι ι' H H') : FS K B ι H a xs → FS K B ι' H' a xs
  | .inl ⟨h1, h2, h3⟩ => .inl ⟨(f.rd h3 h1).1, h2, (f.rd h3 h1).2⟩
  | .inr h => .inr h
theorem FT.sq {ι : List Addr} {H : Hp} {a : Addr} {xs : List V} : FT K B ι H a xs → SqT K H a xs
  | .inl ⟨_, _, h⟩ => .inl h
  | .inr h => .inr h
theorem FL.sq {ι : List Addr} {H : Hp} {a : Addr} {xs : List V} : FL B ι H a xs → SqL K H a xs
  | ⟨_, _, h⟩ => .inl (.inl h)

theorem FS.sq {ι : List Addr} {H : Hp} {a : Addr} {xs : List V} : FS K B ι H a xs → SqL K H a xs
  | .inl ⟨_, _, h⟩ => .inl h
  | .inr h => .inr h

mutual
theorem RD.fr {ι ι' : List Addr} {H H' : Hp} (f : Fr ι ι' H H') : ∀ (d : D) (v : V), RD K B ι H d v → RD K B ι' H' d v
  | .non, v, h => by rw [RD] at h ⊢; exact h
  | .bl b, v, h => by rw [RD] at h ⊢; exact h
  | .int i, v, h => by rw [RD] at h ⊢; exact h
  | .str x, v, h => by rw [RD] at h ⊢; exact h
  | .tup ds, v, h => by
    rw [RD] at h ⊢
    obtain ⟨a, xs, e, h1, h2⟩ := h
    exact ⟨a, xs, e, h1.fr f, RDs.fr f ds xs h2⟩
  | .lst ds, v, h => by
    rw [RD] at h ⊢
    obtain ⟨a, xs, e, h1, h2⟩ := h
    exact ⟨a, xs, e, h1.fr f, RDs.fr f ds xs h2⟩
  | .dct ks ds, v, h => by
    rw [RD] at h ⊢
    obtain ⟨a, xs, e, h1, h2, h3, h4, h5⟩ := h
    exact ⟨a, xs, e, f.out h3 h1, h2, f.st _ _ h3 h1, h4, RDs.fr f ds xs h5⟩
  | .obj n, v, h => by
    rw [RD] at h ⊢
    obtain ⟨a, e, h1⟩ := h
    exact ⟨a, e, f.get h1⟩
  | .scr ds, v, h => by
    rw [RD] at h ⊢
    obtain ⟨a, xs, e, h1, h2⟩ := h
    exact ⟨a, xs, e, h1.fr f, RDs.fr f ds xs h2⟩
theorem RDs.fr {ι ι' : List Addr} {H H' : Hp} (f : Fr ι ι' H H') : ∀ (ds : List D) (vs : List V), RDs K B ι H ds vs → RDs K B ι' H' ds vs
  | [], vs, h => by rw [RDs] at h ⊢; exact h
  | d :: ds, vs, h => by
    rw [RDs] at h ⊢
    obtain ⟨v, r, e, h1, h2⟩ := h
    exact ⟨v, r, e, RD.fr f d v h1, RDs.fr f ds r h2⟩
end
variable {ι : List Addr} {H : Hp}
theorem RDs.nil : RDs K B ι H [] [] := by rw [RDs]
theorem RDs.cons {d : D} {v : V} {ds : List D} {vs : List V} (h : RD K B ι H d v) (t : RDs K B ι H ds vs) : RDs K B ι H (d :: ds) (v :: vs) := by
  rw [RDs]; exact ⟨v, vs, rfl, h, t⟩
theorem RDs.uncons {d : D} {v : V} {ds : List D} {vs : List V} (h : RDs K B ι H (d :: ds) (v :: vs)) : RD K B ι H d v ∧ RDs K B ι H ds vs := by
  rw [RDs] at h
  obtain ⟨v', r, e, h1, h2⟩ := h
  cases e
  exact ⟨h1, h2⟩
theorem RDs.nil_inv {vs : List V} (h : RDs K B ι H [] vs) : vs = [] := by rw [RDs] at h; exact h
theorem RDs.cons_inv {d : D} {ds : List D} {vs : List V} (h : RDs K B ι H (d :: ds) vs) : ∃ v r, vs = v :: r ∧ RD K B ι H d v ∧ RDs K B ι H ds r := by rw [RDs] at h; exact h
theorem RDs.len : ∀ {ds : List D} {vs : List V}, RDs K B ι H ds vs → ds.length = vs.length
  | [], vs, h => by rw [h.nil_inv] <;> rfl
  | d :: ds, vs, h => by
    obtain ⟨v, r, rfl, _, h2⟩ := h.cons_inv
    rw [List.length_cons, List.length_cons, RDs.len h2]
theorem RDs.get : ∀ {ds : List D} {vs : List V} {i : Nat} {d : D}, RDs K B ι H ds vs → ds[i]? = some d → ∃ v, vs[i]? = some v ∧ RD K B ι H d v
  | [], vs, i, d, h, e => by simp at e
  | c :: ds, vs, 0, d, h, e => by
    obtain ⟨v, r, rfl, h1, _⟩ := h.cons_inv
    simp at e; subst e
    exact ⟨v, rfl, h1⟩
  | c :: ds, vs, i + 1, d, h, e => by
    obtain ⟨v, r, rfl, _, h2⟩ := h.cons_inv
    obtain ⟨u, h3, h4⟩ := RDs.get (i := i) h2 (by simpa using e)
    exact ⟨u, by simpa using h3, h4⟩
theorem RDs.get' {ds : List D} {vs : List V} {i : Nat} {v : V} (h : RDs K B ι H ds vs) (e : vs[i]? = some v) : ∃ d, ds[i]? = some d ∧ RD K B ι H d v := by
  have hi : i < ds.length := by rw [h.len]; exact (List.getElem?_eq_some_iff.mp e).1
  obtain ⟨u, h1, h2⟩ := h.get (List.getElem?_eq_getElem hi)
  rw [e] at h1; cases h1
  exact ⟨_, List.getElem?_eq_getElem hi, h2⟩
theorem RDs.append : ∀ {ds es : List D} {vs us : List V}, RDs K B ι H ds vs → RDs K B ι H es us → RDs K B ι H (ds ++ es) (vs ++ us)
  | [], es, vs, us, h, g => by rw [h.nil_inv]; exact g
  | d :: ds, es, vs, us, h, g => by
    obtain ⟨v, r, rfl, h1, h2⟩ := h.cons_inv
    exact .cons h1 (RDs.append h2 g)
theorem RDs.take : ∀ {ds : List D} {vs : List V} (n : Nat), RDs K B ι H ds vs → RDs K B ι H (ds.take n) (vs.take n)
  | ds, vs, 0, h => by simp; exact .nil
  | [], vs, n + 1, h => by rw [h.nil_inv]; exact .nil
  | d :: ds, vs, n + 1, h => by
    obtain ⟨v, r, rfl, h1, h2⟩ := h.cons_inv
    exact .cons h1 (RDs.take n h2)
theorem RDs.drop : ∀ {ds : List D} {vs : List V} (n : Nat), RDs K B ι H ds vs → RDs K B ι H (ds.drop n) (vs.drop n)
  | ds, vs, 0, h => by simpa using h
  | [], vs, n + 1, h => by rw [h.nil_inv]; exact .nil
  | d :: ds, vs, n + 1, h => by
    obtain ⟨v, r, rfl, h1, h2⟩ := h.cons_inv
    simpa using RDs.drop n h2
theorem RDs.set : ∀ {ds : List D} {vs : List V} {d : D} {v : V} (i : Nat), RDs K B ι H ds vs → RD K B ι H d v → RDs K B ι H (ds.set i d) (vs.set i v)
  | [], vs, d, v, i, h, g => by rw [h.nil_inv]; simpa using (RDs.nil : RDs K B ι H [] [])
  | c :: ds, vs, d, v, 0, h, g => by
    obtain ⟨v, r, rfl, h1, h2⟩ := h.cons_inv
    exact .cons g h2
  | c :: ds, vs, d, v, i + 1, h, g => by
    obtain ⟨v, r, rfl, h1, h2⟩ := h.cons_inv
    exact .cons h1 (RDs.set i h2 g)
theorem RD.mk_int {i : Int} : RD K B ι H (.int i) (.int i) := by rw [RD]
theorem RD.mk_bl {b : Bool} : RD K B ι H (.bl b) (.bl b) := by rw [RD]
theorem RD.mk_str {x : Str} : RD K B ι H (.str x) (.str x) := by rw [RD]
theorem RD.mk_non : RD K B ι H .non .non := by rw [RD]
theorem RD.int {i : Int} {v : V} (h : RD K B ι H (.int i) v) : v = .int i := by rw [RD] at h; exact h
theorem RD.bl {b : Bool} {v : V} (h : RD K B ι H (.bl b) v) : v = .bl b := by rw [RD] at h; exact h
theorem RD.str {x : Str} {v : V} (h : RD K B ι H (.str x) v) : v = .str x := by rw [RD] at h; exact h
theorem RD.non {v : V} (h : RD K B ι H .non v) : v = .non := by rw [RD] at h; exact h
theorem RD.tup {ds : List D} {v : V} (h : RD K B ι H (.tup ds) v) : ∃ a xs, v = .ref a ∧ FT K B ι H a xs ∧ RDs K B ι H ds xs := by rw [RD] at h; exact h
theorem RD.lst {ds : List D} {v : V} (h : RD K B ι H (.lst ds) v) : ∃ a xs, v = .ref a ∧ FL B ι H a xs ∧ RDs K B ι H ds xs := by rw [RD] at h; exact h
theorem RD.obj {n : Nat} {v : V} (h : RD K B ι H (.obj n) v) : ∃ a, v = .ref a ∧ ι[n]? = some a := by rw [RD] at h; exact h
theorem RD.dct {ks : List Key} {ds : List D} {v : V} (h : RD K B ι H (.dct ks ds) v) : ∃ a xs, v = .ref a ∧ a ∉ ι ∧ ¬ B a ∧ H a = some (.dK (ks.zip xs)) ∧ ks.length = xs.length ∧ RDs K B ι H ds xs := by rw [RD] at h; exact h
theorem RD.scr {ds : List D} {v : V} (h : RD K B ι H (.scr ds) v) : ∃ a xs, v = .ref a ∧ FS K B ι H a xs ∧ RDs K B ι H ds xs := by rw [RD] at h; exact h
theorem RD.mk_obj {n : Nat} {a : Addr} (h : ι[n]? = some a) : RD K B ι H (.obj n) (.ref a) := by rw [RD]; exact ⟨a, rfl, h⟩
theorem RD.mk_tup {ds : List D} {a : Addr} {xs : List V} (h : FT K B ι H a xs) (r : RDs K B ι H ds xs) : RD K B ι H (.tup ds) (.ref a) := by rw [RD]; exact ⟨a, xs, rfl, h, r⟩
theorem RD.mk_lst {ds : List D} {a : Addr} {xs : List V} (h : FL B ι H a xs) (r : RDs K B ι H ds xs) : RD K B ι H (.lst ds) (.ref a) := by rw [RD]; exact ⟨a, xs, rfl, h, r⟩
end

section
variable (K : PySem.W.Frag) (cA : Str → Addr) (B : Addr → Prop)
/-- a cell stands at a -/
def RO (ι : List Addr) (H : Hp) (a : Addr) : Cell → Prop
  | .lst ds => ∃ xs, H a = some (.lst xs) ∧ RDs K B ι H ds xs
  | .dct ks ds => ∃ xs, H a = some (.dK (ks.zip xs)) ∧ ks.length = xs.length ∧ RDs K B ι H ds xs
  | .ins C fs => ∃ dx xs, H a = some (.ins (cA C) dx ((fs.map (·.1)).zip xs)) ∧ fs.length = xs.length ∧ RDs K B ι H (fs.map (·.2)) xs
structure RS (ι : List Addr) (S : Sto) (H : Hp) : Prop where
  len : ι.length = S.length
  nd : ι.Nodup
  nB : ∀ a, B a → a ∉ ι ∧ ∃ o, H a = some o
  at_ : ∀ (i : Nat) (c : Cell), S[i]? = some c → ∃ a, ι[i]? = some a ∧ RO K cA B ι H a c
structure Rel (ι : List Addr) (e : En) (S : Sto) (σ : L2.St) (H : Hp) : Prop where
  rs : RS K cA B ι S H
  len : e.length = σ.length
  ev : ∀ (i : Nat) (d : D), e[i]? = some (some d) → ∃ v, σ[i]? = some (some v) ∧ RD K B ι H d v
end
section
variable {K : PySem.W.Frag} {cA : Str → Addr} {B : Addr → Prop} {ι ι' : List Addr} {H H' : Hp} {S S' : Sto} {e : En} {σ : L2.St}
theorem RO.fr {a : Addr} {c : Cell} (f : Fr ι ι' H H') (ha : H' a = H a) (h : RO K cA B ι H a c) : RO K cA B ι' H' a c := by
  cases c with
  | lst ds => obtain ⟨xs, h1, h2⟩ := h; exact ⟨xs, by rw [ha]; exact h1, RDs.fr f _ _ h2⟩
  | dct ks ds => obtain ⟨xs, h1, h2, h3⟩ := h; exact ⟨xs, by rw [ha]; exact h1, h2, RDs.fr f _ _ h3⟩
  | ins C fs => obtain ⟨dx, xs, h1, h2, h3⟩ := h; exact ⟨dx, xs, by rw [ha]; exact h1, h2, RDs.fr f _ _ h3⟩
theorem RO.has {a : Addr} {c : Cell} (h : RO K cA B ι H a c) : ∃ o, H a = some o := by
  cases c with
  | lst ds => obtain ⟨xs, h1, h2⟩ := h; exact ⟨_, h1⟩
  | dct ks ds => obtain ⟨xs, h1, h2, h3⟩ := h; exact ⟨_, h1⟩
  | ins C fs => obtain ⟨dx, xs, h1, h2, h3⟩ := h; exact ⟨_, h1⟩
theorem RS.same (r : RS K cA B ι S H) (h : Same H H') : RS K cA B ι S H' := ⟨r.len, r.nd, fun a b => let ⟨h1, o, h2⟩ := r.nB a b; ⟨h1, o, h a o h2⟩, fun i c e => by
  obtain ⟨a, h1, h2⟩ := r.at_ i c e
  obtain ⟨o, ho⟩ := h2.has
  exact ⟨a, h1, h2.fr (Fr.same h) (by rw [ho]; exact h a o ho)⟩⟩
theorem RS.there (r : RS K cA B ι S H) {a : Addr} (h : a ∈ ι) : ∃ o, H a = some o := by
  obtain ⟨i, hi, e⟩ := List.getElem_of_mem h
  have : i < S.length := by rw [← r.len]; exact hi
  obtain ⟨b, h1, h2⟩ := r.at_ i _ (List.getElem?_eq_getElem this)
  rw [List.getElem?_eq_getElem hi, e] at h1; cases h1
  exact h2.has
theorem Rel.fr (r : Rel K cA B ι e S σ H) (f : Fr ι ι' H H') (rs : RS K cA B ι' S' H') : Rel K cA B ι' e S' σ H' :=
  ⟨rs, r.len, fun i d h => let ⟨v, h1, h2⟩ := r.ev i d h; ⟨v, h1, RD.fr f d v h2⟩⟩
end

section
variable (K : PySem.W.Frag) (cA : Str → Addr) (W : WX)
/-- what is wanted behind an expression -/
def PoE (B : Addr → Prop) (r : RE) (ι : List Addr) (σ : L2.St) (H : Hp) (Q : VK) : Prop :=
  match r with
  | .ok d S => ∀ ι' v H', Fr ι ι' H H' → RS K cA B ι' S H' → RD K B ι' H' d v → Q v H'
  | .exc c S => ∀ ι' H', Fr ι ι' H H' → RS K cA B ι' S H' → W (.ref (cA c)) none σ H'
  | .bad => False
def PoA (B : Addr → Prop) (r : RA) (ι : List Addr) (σ : L2.St) (H : Hp) (Q : List V → Hp → Prop) : Prop :=
  match r with
  | .ok ds S => ∀ ι' vs H', Fr ι ι' H H' → RS K cA B ι' S H' → RDs K B ι' H' ds vs → Q vs H'
  | .exc c S => ∀ ι' H', Fr ι ι' H H' → RS K cA B ι' S H' → W (.ref (cA c)) none σ H'
  | .bad => False
def PoB (B : Addr → Prop) (r : RB) (ι : List Addr) (σ : L2.St) (H : Hp) (Q : Bool → Hp → Prop) : Prop :=
  match r with
  | .ok b S => ∀ ι' H', Fr ι ι' H H' → RS K cA B ι' S H' → Q b H'
  | .exc c S => ∀ ι' H', Fr ι ι' H H' → RS K cA B ι' S H' → W (.ref (cA c)) none σ H'
  | .bad => False
def PoS (B : Addr → Prop) (r : RS') (ι : List Addr) (H : Hp) (D' : Ends) : Prop :=
  match r with
  | .nx e S => ∀ ι' σ' H', Fr ι ι' H H' → Rel K cA B ι' e S σ' H' → D'.nx σ' H'
  | .brk e S => ∀ ι' σ' H', Fr ι ι' H H' → Rel K cA B ι' e S σ' H' → D'.bk σ' H'
  | .cont e S => ∀ ι' σ' H', Fr ι ι' H H' → Rel K cA B ι' e S σ' H' → D'.ct σ' H'
  | .ret d S => ∀ ι' v H', Fr ι ι' H H' → RS K cA B ι' S H' → RD K B ι' H' d v → D'.rt v H'
  | .exc c e S => ∀ ι' σ' H', Fr ι ι' H H' → Rel K cA B ι' e S σ' H' → W (.ref (cA c)) none σ' H'
  | .bad => False
def tE (m : ME) : TE := fun σ H Q => ∃ B ι e S, Rel K cA B ι e S σ H ∧ PoE K cA W B (m e S) ι σ H Q
def tA (m : MA) : TA := fun σ H Q => ∃ B ι e S, Rel K cA B ι e S σ H ∧ PoA K cA W B (m e S) ι σ H Q
def tT (m : MB) : TT := fun σ H Q => ∃ B ι e S, Rel K cA B ι e S σ H ∧ PoB K cA W B (m e S) ι σ H Q
def tS (m : MS) : TS := fun D' σ H => ∃ B ι e S, Rel K cA B ι e S σ H ∧ PoS K cA W B (m e S) ι H D'
end
end DL

/-! The data layer: expressions and statements. -/
namespace DL
open PySem PySem.Spec PyProof.Rows L2

/-! ### weakening -/
theorem PEi {X : Cx} {e : Expr} {t t' : TE} (h : PE X e t) (i : ∀ σ H Q, t' σ H Q → t σ H Q) : PE X e t' := ⟨fun p s σ H Q I q => h.run p s σ H Q I (i σ H Q q)⟩
theorem PTi {X : Cx} {e : Expr} {t t' : TT} (h : PT X e t) (i : ∀ σ H Q, t' σ H Q → t σ H Q) : PT X e t' := ⟨fun p s σ H Q I q => h.run p s σ H Q I (i σ H Q q)⟩
theorem PWi {X : Cx} {e : Expr} {t t' : TT} (h : PW X e t) (i : ∀ σ H Q, t' σ H Q → t σ H Q) : PW X e t' := ⟨fun wh p s σ H Q I q => h.run wh p s σ H Q I (i σ H Q q)⟩
theorem PAi {X : Cx} {e : List Expr} {t t' : TA} (h : PA X e t) (i : ∀ σ H Q, t' σ H Q → t σ H Q) : PA X e t' := ⟨fun po p s σ H Q I q => h.run po p s σ H Q I (i σ H Q q)⟩
theorem PSi {X : Cx} {e : Stmt} {t t' : TS} (h : PS X e t) (i : ∀ D' σ H, t' D' σ H → t D' σ H) : PS X e t' := ⟨fun p s σ H D' I q => h.run p s σ H D' I (i D' σ H q)⟩
theorem PSsi {X : Cx} {e : List Stmt} {t t' : TS} (h : PSs X e t) (i : ∀ D' σ H, t' D' σ H → t D' σ H) : PSs X e t' := ⟨fun p s σ H D' I q => h.run p s σ H D' I (i D' σ H q)⟩

/-! ### what a piece does -/
def RE.bind (r : RE) (f : D → Sto → RE) : RE := match r with | .ok d S => f d S | .exc c S => .exc c S | .bad => .bad
def RE.bindA (r : RE) (f : D → Sto → RA) : RA := match r with | .ok d S => f d S | .exc c S => .exc c S | .bad => .bad
def RE.bindB (r : RE) (f : D → Sto → RB) : RB := match r with | .ok d S => f d S | .exc c S => .exc c S | .bad => .bad
def RE.bindS (r : RE) (e : En) (f : D → Sto → RS') : RS' := match r with | .ok d S => f d S | .exc c S => .exc c e S | .bad => .bad
def RA.bind (r : RA) (f : List D → Sto → RE) : RE := match r with | .ok d S => f d S | .exc c S => .exc c S | .bad => .bad
def RA.bindA (r : RA) (f : List D → Sto → RA) : RA := match r with | .ok d S => f d S | .exc c S => .exc c S | .bad => .bad
def RB.bind (r : RB) (f : Bool → Sto → RE) : RE := match r with | .ok d S => f d S | .exc c S => .exc c S | .bad => .bad
def RB.bindB (r : RB) (f : Bool → Sto → RB) : RB := match r with | .ok d S => f d S | .exc c S => .exc c S | .bad => .bad
def RB.bindS (r : RB) (e : En) (f : Bool → Sto → RS') : RS' := match r with | .ok d S => f d S | .exc c S => .exc c e S | .bad => .bad
def RS'.bind (r : RS') (f : En → Sto → RS') : RS' := match r with | .nx e S => f e S | r => r
def opt (r : Option D) (S : Sto) : RE := match r with | some d => .ok d S | none => .bad
def optB (r : Option Bool) (S : Sto) : RB := match r with | some d => .ok d S | none => .bad

def eV (i : Nat) : ME := fun e S => match e[i]? with | some (some d) => .ok d S | _ => .bad
def eC (d : D) : ME := fun _ S => .ok d S
def e2 (g : Sto → D → D → Option D) (a b : ME) : ME := fun e S => (a e S).bind fun x S1 => (b e S1).bind fun y S2 => opt (g S2 x y) S2
def e1 (g : Sto → D → Option D) (a : ME) : ME := fun e S => (a e S).bind fun x S1 => opt (g S1 x) S1
def tOf (a : ME) : MB := fun e S => (a e S).bindB fun x S1 => match x with | .bl b => .ok b S1 | _ => .bad
def tNo (a : MB) : MB := fun e S => (a e S).bindB fun b S1 => .ok (!b) S1
def tAn (a b : MB) : MB := fun e S => (a e S).bindB fun x S1 => if x = true then b e S1 else .ok false S1
def tO (a b : MB) : MB := fun e S => (a e S).bindB fun x S1 => if x = true then .ok true S1 else b e S1
def eIf (c : MB) (a b : ME) : ME := fun e S => (c e S).bind fun x S1 => if x = true then a e S1 else b e S1
def eNo (a : ME) : ME := fun e S => (a e S).bind fun x S1 => match x with | .bl b => .ok (.bl (!b)) S1 | _ => .bad
/-- a and b: a True or False -/
def eAn (a b : ME) : ME := fun e S => (a e S).bind fun x S1 => match x with | .bl true => b e S1 | .bl false => .ok (.bl false) S1 | _ => .bad
def eO (a b : ME) : ME := fun e S => (a e S).bind fun x S1 => match x with | .bl false => b e S1 | .bl true => .ok (.bl true) S1 | _ => .bad
def aN : MA := fun _ S => .ok [] S
def aC (a : ME) (r : MA) : MA := fun e S => (a e S).bindA fun x S1 => (r e S1).bindA fun xs S2 => .ok (x :: xs) S2
def eTup (a : MA) : ME := fun e S => (a e S).bind fun xs S1 => if xs.length ≤ 16777216 then .ok (.tup xs) S1 else .bad
/-- a list that is not changed any more -/
def eLst (a : MA) : ME := fun e S => (a e S).bind fun xs S1 => if xs.length ≤ 16777216 then .ok (.lst xs) S1 else .bad
/-- a list that changes: a new cell -/
def eNew (a : MA) : ME := fun e S => (a e S).bind fun xs S1 => if xs.length ≤ 16777216 then .ok (.obj S1.length) (S1 ++ [.lst xs]) else .bad
def eB (g : Sto → List D → Option D) (a : MA) : ME := fun e S => (a e S).bind fun xs S1 => opt (g S1 xs) S1

def sPass : MS := fun e S => .nx e S
def sSeq (a b : MS) : MS := fun e S => (a e S).bind b
def sSet (i : Nat) (m : ME) : MS := fun e S => (m e S).bindS e fun d S1 => .nx (e.set i (some d)) S1
def sEx (m : ME) : MS := fun e S => (m e S).bindS e fun _ S1 => .nx e S1
def sRet (m : ME) : MS := fun e S => (m e S).bindS e fun d S1 => .ret d S1
def sRetN : MS := fun _ S => .ret .non S
def sIf (c : MB) (a b : MS) : MS := fun e S => (c e S).bindS e fun x S1 => if x = true then a e S1 else b e S1
def sBrk : MS := fun e S => .brk e S
def sCont : MS := fun e S => .cont e S

section
variable {K : PySem.W.Frag} {cA : Str → Addr} {W : WX} {B : Addr → Prop}
/-- behind a first expression -/
theorem po_bind {m : ME} {f : D → Sto → RE} {ι : List Addr} {e : En} {S : Sto} {σ : L2.St} {H : Hp} {Q : VK} {T : VK} (r : Rel K cA B ι e S σ H)
    (h : PoE K cA W B ((m e S).bind f) ι σ H Q) (k : ∀ ι' v H' d S', Fr ι ι' H H' → Rel K cA B ι' e S' σ H' → RD K B ι' H' d v → PoE K cA W B (f d S') ι' σ H' Q → T v H') : PoE K cA W B (m e S) ι σ H T := by
  unfold RE.bind at h
  cases q : m e S with
  | bad => rw [q] at h; exact h
  | exc c S' => rw [q] at h; exact h
  | ok d S' =>
    rw [q] at h
    intro ι' v H' fr rs rd
    refine k ι' v H' d S' fr (r.fr fr rs) rd ?_
    show PoE K cA W B (f d S') ι' σ H' Q
    change PoE K cA W B (f d S') ι σ H Q at h
    revert h
    cases f d S' with
    | bad => exact id
    | ok d2 S2 => exact fun h ι2 v2 H2 f2 r2 d2 => h ι2 v2 H2 (fr.trans f2) r2 d2
    | exc c S2 => exact fun h ι2 H2 f2 r2 => h ι2 H2 (fr.trans f2) r2
theorem po_bindB {m : ME} {f : D → Sto → RB} {ι : List Addr} {e : En} {S : Sto} {σ : L2.St} {H : Hp} {Q : Bool → Hp → Prop} {T : VK} (r : Rel K cA B ι e S σ H)
    (h : PoB K cA W B ((m e S).bindB f) ι σ H Q) (k : ∀ ι' v H' d S', Fr ι ι' H H' → Rel K cA B ι' e S' σ H' → RD K B ι' H' d v → PoB K cA W B (f d S') ι' σ H' Q → T v H') : PoE K cA W B (m e S) ι σ H T := by
  unfold RE.bindB at h
  cases q : m e S with
  | bad => rw [q] at h; exact h
  | exc c S' => rw [q] at h; exact h
  | ok d S' =>
    rw [q] at h
    intro ι' v H' fr rs rd
    refine k ι' v H' d S' fr (r.fr fr rs) rd ?_
    show PoB K cA W B (f d S') ι' σ H' Q
    change PoB K cA W B (f d S') ι σ H Q at h
    revert h
    cases f d S' with
    | bad => exact id
    | ok d2 S2 => exact fun h ι2 H2 f2 r2 => h ι2 H2 (fr.trans f2) r2
    | exc c S2 => exact fun h ι2 H2 f2 r2 => h ι2 H2 (fr.trans f2) r2
theorem po_bindA {m : ME} {f : D → Sto → RA} {ι : List Addr} {e : En} {S : Sto} {σ : L2.St} {H : Hp} {Q : List V → Hp → Prop} {T : VK} (r : Rel K cA B ι e S σ H)
    (h : PoA K cA W B ((m e S).bindA f) ι σ H Q) (k : ∀ ι' v H' d S', Fr ι ι' H H' → Rel K cA B ι' e S' σ H' → RD K B ι' H' d v → PoA K cA W B (f d S') ι' σ H' Q → T v H') : PoE K cA W B (m e S) ι σ H T := by
  unfold RE.bindA at h
  cases q : m e S with
  | bad => rw [q] at h; exact h
  | exc c S' => rw [q] at h; exact h
  | ok d S' =>
    rw [q] at h
    intro ι' v H' fr rs rd
    refine k ι' v H' d S' fr (r.fr fr rs) rd ?_
    show PoA K cA W B (f d S') ι' σ H' Q
    change PoA K cA W B (f d S') ι σ H Q at h
    revert h
    cases f d S' with
    | bad => exact id
    | ok d2 S2 => exact fun h ι2 v2 H2 f2 r2 d2 => h ι2 v2 H2 (fr.trans f2) r2 d2
    | exc c S2 => exact fun h ι2 H2 f2 r2 => h ι2 H2 (fr.trans f2) r2
theorem poA_bind {m : MA} {f : List D → Sto → RE} {ι : List Addr} {e : En} {S : Sto} {σ : L2.St} {H : Hp} {Q : VK} {T : List V → Hp → Prop} (r : Rel K cA B ι e S σ H)
    (h : PoE K cA W B ((m e S).bind f) ι σ H Q) (k : ∀ ι' vs H' ds S', Fr ι ι' H H' → Rel K cA B ι' e S' σ H' → RDs K B ι' H' ds vs → PoE K cA W B (f ds S') ι' σ H' Q → T vs H') : PoA K cA W B (m e S) ι σ H T := by
  unfold RA.bind at h
  cases q : m e S with
  | bad => rw [q] at h; exact h
  | exc c S' => rw [q] at h; exact h
  | ok d S' =>
    rw [q] at h
    intro ι' v H' fr rs rd
    refine k ι' v H' d S' fr (r.fr fr rs) rd ?_
    show PoE K cA W B (f d S') ι' σ H' Q
    change PoE K cA W B (f d S') ι σ H Q at h
    revert h
    cases f d S' with
    | bad => exact id
    | ok d2 S2 => exact fun h ι2 v2 H2 f2 r2 d2 => h ι2 v2 H2 (fr.trans f2) r2 d2
    | exc c S2 => exact fun h ι2 H2 f2 r2 => h ι2 H2 (fr.trans f2) r2
theorem poA_bindA {m : MA} {f : List D → Sto → RA} {ι : List Addr} {e : En} {S : Sto} {σ : L2.St} {H : Hp} {Q : List V → Hp → Prop} {T : List V → Hp → Prop} (r : Rel K cA B ι e S σ H)
    (h : PoA K cA W B ((m e S).bindA f) ι σ H Q) (k : ∀ ι' vs H' ds S', Fr ι ι' H H' → Rel K cA B ι' e S' σ H' → RDs K B ι' H' ds vs → PoA K cA W B (f ds S') ι' σ H' Q → T vs H') : PoA K cA W B (m e S) ι σ H T := by
  unfold RA.bindA at h
  cases q : m e S with
  | bad => rw [q] at h; exact h
  | exc c S' => rw [q] at h; exact h
  | ok d S' =>
    rw [q] at h
    intro ι' v H' fr rs rd
    refine k ι' v H' d S' fr (r.fr fr rs) rd ?_
    show PoA K cA W B (f d S') ι' σ H' Q
    change PoA K cA W B (f d S') ι σ H Q at h
    revert h
    cases f d S' with
    | bad => exact id
    | ok d2 S2 => exact fun h ι2 v2 H2 f2 r2 d2 => h ι2 v2 H2 (fr.trans f2) r2 d2
    | exc c S2 => exact fun h ι2 H2 f2 r2 => h ι2 H2 (fr.trans f2) r2
theorem poB_bind {m : MB} {f : Bool → Sto → RE} {ι : List Addr} {e : En} {S : Sto} {σ : L2.St} {H : Hp} {Q : VK} {T : Bool → Hp → Prop} (r : Rel K cA B ι e S σ H)
    (h : PoE K cA W B ((m e S).bind f) ι σ H Q) (k : ∀ ι' H' b S', Fr ι ι' H H' → Rel K cA B ι' e S' σ H' → PoE K cA W B (f b S') ι' σ H' Q → T b H') : PoB K cA W B (m e S) ι σ H T := by
  unfold RB.bind at h
  cases q : m e S with
  | bad => rw [q] at h; exact h
  | exc c S' => rw [q] at h; exact h
  | ok d S' =>
    rw [q] at h
    intro ι' H' fr rs
    refine k ι' H' d S' fr (r.fr fr rs) ?_
    show PoE K cA W B (f d S') ι' σ H' Q
    change PoE K cA W B (f d S') ι σ H Q at h
    revert h
    cases f d S' with
    | bad => exact id
    | ok d2 S2 => exact fun h ι2 v2 H2 f2 r2 d2 => h ι2 v2 H2 (fr.trans f2) r2 d2
    | exc c S2 => exact fun h ι2 H2 f2 r2 => h ι2 H2 (fr.trans f2) r2
theorem poB_bindB {m : MB} {f : Bool → Sto → RB} {ι : List Addr} {e : En} {S : Sto} {σ : L2.St} {H : Hp} {Q : Bool → Hp → Prop} {T : Bool → Hp → Prop} (r : Rel K cA B ι e S σ H)
    (h : PoB K cA W B ((m e S).bindB f) ι σ H Q) (k : ∀ ι' H' b S', Fr ι ι' H H' → Rel K cA B ι' e S' σ H' → PoB K cA W B (f b S') ι' σ H' Q → T b H') : PoB K cA W B (m e S) ι σ H T := by
  unfold RB.bindB at h
  cases q : m e S with
  | bad => rw [q] at h; exact h
  | exc c S' => rw [q] at h; exact h
  | ok d S' =>
    rw [q] at h
    intro ι' H' fr rs
    refine k ι' H' d S' fr (r.fr fr rs) ?_
    show PoB K cA W B (f d S') ι' σ H' Q
    change PoB K cA W B (f d S') ι σ H Q at h
    revert h
    cases f d S' with
    | bad => exact id
    | ok d2 S2 => exact fun h ι2 H2 f2 r2 => h ι2 H2 (fr.trans f2) r2
    | exc c S2 => exact fun h ι2 H2 f2 r2 => h ι2 H2 (fr.trans f2) r2
/-- statements: further on -/
theorem PoS.on {r : RS'} {ι ι' : List Addr} {H H' : Hp} {D' : Ends} (fr : Fr ι ι' H H') (h : PoS K cA W B r ι H D') : PoS K cA W B r ι' H' D' := by
  cases r with
  | bad => exact h
  | nx e S => exact fun ι2 σ2 H2 f2 r2 => h ι2 σ2 H2 (fr.trans f2) r2
  | brk e S => exact fun ι2 σ2 H2 f2 r2 => h ι2 σ2 H2 (fr.trans f2) r2
  | cont e S => exact fun ι2 σ2 H2 f2 r2 => h ι2 σ2 H2 (fr.trans f2) r2
  | ret d S => exact fun ι2 v2 H2 f2 r2 d2 => h ι2 v2 H2 (fr.trans f2) r2 d2
  | exc c e S => exact fun ι2 σ2 H2 f2 r2 => h ι2 σ2 H2 (fr.trans f2) r2
theorem po_bindS {m : ME} {f : D → Sto → RS'} {ι : List Addr} {e : En} {S : Sto} {σ : L2.St} {H : Hp} {D' : Ends} {T : VK} (r : Rel K cA B ι e S σ H)
    (h : PoS K cA W B ((m e S).bindS e f) ι H D') (k : ∀ ι' v H' d S', Fr ι ι' H H' → Rel K cA B ι' e S' σ H' → RD K B ι' H' d v → PoS K cA W B (f d S') ι' H' D' → T v H') : PoE K cA W B (m e S) ι σ H T := by
  unfold RE.bindS at h
  cases q : m e S with
  | bad => rw [q] at h; exact h
  | exc c S' => rw [q] at h; exact fun ι' H' fr rs => h ι' σ H' fr (r.fr fr rs)
  | ok d S' =>
    rw [q] at h
    intro ι' v H' fr rs rd
    exact k ι' v H' d S' fr (r.fr fr rs) rd (PoS.on fr h)
theorem poB_bindS {m : MB} {f : Bool → Sto → RS'} {ι : List Addr} {e : En} {S : Sto} {σ : L2.St} {H : Hp} {D' : Ends} {T : Bool → Hp → Prop} (r : Rel K cA B ι e S σ H)
    (h : PoS K cA W B ((m e S).bindS e f) ι H D') (k : ∀ ι' H' b S', Fr ι ι' H H' → Rel K cA B ι' e S' σ H' → PoS K cA W B (f b S') ι' H' D' → T b H') : PoB K cA W B (m e S) ι σ H T := by
  unfold RB.bindS at h
  cases q : m e S with
  | bad => rw [q] at h; exact h
  | exc c S' => rw [q] at h; exact fun ι' H' fr rs => h ι' σ H' fr (r.fr fr rs)
  | ok d S' =>
    rw [q] at h
    intro ι' H' fr rs
    exact k ι' H' d S' fr (r.fr fr rs) (PoS.on fr h)
end

section
variable {X : Cx} {cA : Str → Addr} {W : WX}
/-! ### the words of a term: the set end of a reading is handed on by its own relation -/
theorem tE.of {K : PySem.W.Frag} {B : Addr → Prop} {m : ME} {ι : List Addr} {e : En} {S : Sto} {σ : L2.St} {H : Hp} {Q : VK} (r : Rel K cA B ι e S σ H) (h : PoE K cA W B (m e S) ι σ H Q) : tE K cA W m σ H Q := ⟨B, ι, e, S, r, h⟩
theorem tA.of {K : PySem.W.Frag} {B : Addr → Prop} {m : MA} {ι : List Addr} {e : En} {S : Sto} {σ : L2.St} {H : Hp} {Q : List V → Hp → Prop} (r : Rel K cA B ι e S σ H) (h : PoA K cA W B (m e S) ι σ H Q) : tA K cA W m σ H Q := ⟨B, ι, e, S, r, h⟩
theorem tT.of {K : PySem.W.Frag} {B : Addr → Prop} {m : MB} {ι : List Addr} {e : En} {S : Sto} {σ : L2.St} {H : Hp} {Q : Bool → Hp → Prop} (r : Rel K cA B ι e S σ H) (h : PoB K cA W B (m e S) ι σ H Q) : tT K cA W m σ H Q := ⟨B, ι, e, S, r, h⟩
theorem tS.of {K : PySem.W.Frag} {B : Addr → Prop} {m : MS} {ι : List Addr} {e : En} {S : Sto} {σ : L2.St} {H : Hp} {D' : Ends} (r : Rel K cA B ι e S σ H) (h : PoS K cA W B (m e S) ι H D') : tS K cA W m D' σ H := ⟨B, ι, e, S, r, h⟩

/-! ### expressions -/
theorem q_v {e : Expr} {i : Nat} (h : PE X e (tVar i)) : PE X e (tE X.K cA W (eV i)) := PEi h fun σ H Q ⟨B, ι, e, S, r, p⟩ => by
  unfold eV at p
  split at p
  · rename_i d q
    obtain ⟨v, h1, h2⟩ := r.ev i d q
    exact ⟨v, h1, p ι v H Fr.refl r.rs h2⟩
  · exact p.elim
theorem q_c {e : Expr} {v : V} {d : D} (h : PE X e (tC v)) (k : ∀ B ι H, RD X.K B ι H d v) : PE X e (tE X.K cA W (eC d)) := PEi h fun σ H Q ⟨B, ι, e, S, r, p⟩ => p ι v H Fr.refl r.rs (k B ι H)
theorem q_int {i : Int} {j pos} : PE X (.Constant (.int i) j pos) (tE X.K cA W (eC (.int i))) := q_c pe_int fun _ _ _ => RD.mk_int
theorem q_bl {i : Bool} {j pos} : PE X (.Constant (.bool i) j pos) (tE X.K cA W (eC (.bl i))) := q_c pe_bl fun _ _ _ => RD.mk_bl
theorem q_str {i : Str} {j pos} : PE X (.Constant (.str i) j pos) (tE X.K cA W (eC (.str i))) := q_c pe_str fun _ _ _ => RD.mk_str
theorem q_non {j pos} : PE X (.Constant .none j pos) (tE X.K cA W (eC .non)) := q_c pe_non fun _ _ _ => RD.mk_non
theorem q_gint {x : Str} {i : Int} {pos : Pos} (hg : Gl X x) (h : ∃ t, X.mg x = some (.int i t)) (hd : (x == ("__debug__" : Str)) = false := by decide) : PE X (.Name x pos) (tE X.K cA W (eC (.int i))) :=
  let ⟨t, hm⟩ := h; q_c (v := .int i) (pe_glob hg hm ⟨t, rfl⟩ hd) fun _ _ _ => RD.mk_int
theorem q_gstr {x : Str} {i : Str} {pos : Pos} (hg : Gl X x) (h : ∃ t, X.mg x = some (.str i t)) (hd : (x == ("__debug__" : Str)) = false := by decide) : PE X (.Name x pos) (tE X.K cA W (eC (.str i))) :=
  let ⟨t, hm⟩ := h; q_c (v := .str i) (pe_glob hg hm ⟨t, rfl⟩ hd) fun _ _ _ => RD.mk_str

/-- an operator by values -/
structure O2 (X : Cx) (f : Value → Value → Sem Value) (g : Sto → D → D → Option D) : Prop where
  ex : ∃ r : R2, OpR X f r ∧ ∀ (cA : Str → Addr) (B : Addr → Prop) (ι : List Addr) (S : Sto) (H : Hp) (x y : V) (a b d : D) (Q : VK), RS X.K cA B ι S H → RD X.K B ι H a x → RD X.K B ι H b y → g S a b = some d →
    (∀ v H', Same H H' → RD X.K B ι H' d v → Q v H') → r x y H Q
variable {a b c : Expr} {ma mb mc : ME} {pos : Pos} {g : Sto → D → D → Option D}
theorem po_opt {K : PySem.W.Frag} {B : Addr → Prop} {o : Option D} {S : Sto} {ι : List Addr} {σ : L2.St} {H : Hp} {Q : VK} (h : PoE K cA W B (opt o S) ι σ H Q) (rs : RS K cA B ι S H) : ∃ d, o = some d ∧ ∀ v H', Same H H' → RD K B ι H' d v → Q v H' := by
  cases o with
  | none => exact h.elim
  | some d => exact ⟨d, rfl, fun v H' sm rd => h ι v H' (Fr.same sm) (rs.same sm) rd⟩
theorem use2 {f : Value → Value → Sem Value} {r : R2} (hr : ∀ (cA : Str → Addr) (B : Addr → Prop) (ι : List Addr) (S : Sto) (H : Hp) (x y : V) (a b d : D) (Q : VK), RS X.K cA B ι S H → RD X.K B ι H a x → RD X.K B ι H b y → g S a b = some d →
    (∀ v H', Same H H' → RD X.K B ι H' d v → Q v H') → r x y H Q) : ∀ σ H Q, tE X.K cA W (e2 g ma mb) σ H Q → tOp r (tE X.K cA W ma) (tE X.K cA W mb) σ H Q := fun σ H Q ⟨B, ι, e, S, re, p⟩ =>
  .of re (po_bind re p fun ι1 v1 H1 d1 S1 f1 r1 rd1 p1 => .of r1 (po_bind r1 p1 fun ι2 v2 H2 d2 S2 f2 r2 rd2 p2 => by
    obtain ⟨d, hd, q⟩ := po_opt p2 r2.rs
    exact hr cA B ι2 S2 H2 v1 v2 d1 d2 d Q r2.rs (RD.fr f2 _ _ rd1) rd2 hd q))
theorem q_op {op : Operator} (ho : O2 X (binaryOp op) g) (ha : PE X a (tE X.K cA W ma)) (hb : PE X b (tE X.K cA W mb)) : PE X (.BinOp a op b pos) (tE X.K cA W (e2 g ma mb)) :=
  let ⟨r, h1, h2⟩ := ho.ex; PEi (pe_op h1 ha hb) (use2 (f := binaryOp op) h2)
theorem q_cmp {op : CmpOp} (ho : O2 X (compareOp op) g) (ha : PE X a (tE X.K cA W ma)) (hb : PE X b (tE X.K cA W mb)) (hm : behindInMarks op b = false := by first | rfl | exact nomark _) : PE X (.Compare a [op] [b] pos) (tE X.K cA W (e2 g ma mb)) :=
  let ⟨r, h1, h2⟩ := ho.ex; PEi (pe_cmpR h1 ha hb hm) (use2 (f := compareOp op) h2)
theorem useT {t : TE} (h : ∀ σ H Q, tE X.K cA W ma σ H Q → t σ H Q) : ∀ σ H Q, tT X.K cA W (tOf ma) σ H Q → tTest t σ H Q := fun σ H Q ⟨B, ι, e, S, re, p⟩ =>
  h σ H _ (.of re (po_bindB re p fun ι1 v1 H1 d1 S1 f1 r1 rd1 p1 => by
    cases d1 with
    | bl k =>
      refine ⟨k, rd1.bl, p1 ι1 H1 Fr.refl r1.rs⟩
    | _ => exact p1.elim))
theorem k_cmp {op : CmpOp} (ho : O2 X (compareOp op) g) (ha : PE X a (tE X.K cA W ma)) (hb : PE X b (tE X.K cA W mb)) (hm : behindInMarks op b = false := by first | rfl | exact nomark _) : PT X (.Compare a [op] [b] pos) (tT X.K cA W (tOf (e2 g ma mb))) :=
  let ⟨r, h1, h2⟩ := ho.ex; PTi (pt_cmpR h1 ha hb hm) (useT (use2 (f := compareOp op) h2))
/-- an expression whose value is True or False, as a test -/
theorem k_val {e : Expr} (h : PE X e (tE X.K cA W ma)) (he : ∀ whole, isTrue e X.env whole = (do let v ← whole; standAt e.pos; holding [v] (truthy v)) := by intro _; rfl) : PT X e (tT X.K cA W (tOf ma)) :=
  PTi (pt_val h he) (useT fun _ _ _ h => h)
variable {xa xb : MB} {rest : List Expr}
theorem k_not (ha : PT X a (tT X.K cA W xa)) : PT X (.UnaryOp .Not a pos) (tT X.K cA W (tNo xa)) := PTi (pt_not ha) fun σ H Q ⟨B, ι, e, S, re, p⟩ =>
  .of re (poB_bindB re p fun ι1 H1 b S1 f1 r1 p1 => p1 ι1 H1 Fr.refl r1.rs)
theorem w_and1 (ha : PT X a (tT X.K cA W xa)) : PW X (.BoolOp .And [a] pos) (tT X.K cA W xa) := pw_and1 ha
theorem w_or1 (ha : PT X a (tT X.K cA W xa)) : PW X (.BoolOp .Or [a] pos) (tT X.K cA W xa) := pw_or1 ha
theorem w_and (ha : PT X a (tT X.K cA W xa)) (hb : PW X (.BoolOp .And (b :: rest) pos) (tT X.K cA W xb)) : PW X (.BoolOp .And (a :: b :: rest) pos) (tT X.K cA W (tAn xa xb)) := PWi (pw_and ha hb) fun σ H Q ⟨B, ι, e, S, re, p⟩ =>
  .of re (poB_bindB re p fun ι1 H1 b S1 f1 r1 p1 => by
    cases b with
    | true => exact .of r1 p1
    | false => exact p1 ι1 H1 Fr.refl r1.rs)
theorem w_or (ha : PT X a (tT X.K cA W xa)) (hb : PW X (.BoolOp .Or (b :: rest) pos) (tT X.K cA W xb)) : PW X (.BoolOp .Or (a :: b :: rest) pos) (tT X.K cA W (tO xa xb)) := PWi (pw_or ha hb) fun σ H Q ⟨B, ι, e, S, re, p⟩ =>
  .of re (poB_bindB re p fun ι1 H1 b S1 f1 r1 p1 => by
    cases b with
    | false => exact .of r1 p1
    | true => exact p1 ι1 H1 Fr.refl r1.rs)
theorem q_if {t : Expr} (ht : PT X t (tT X.K cA W xa)) (ha : PE X a (tE X.K cA W ma)) (hb : PE X b (tE X.K cA W mb)) : PE X (.IfExp t a b pos) (tE X.K cA W (eIf xa ma mb)) := PEi (pe_ifExp ht ha hb) fun σ H Q ⟨B, ι, e, S, re, p⟩ =>
  .of re (poB_bind re p fun ι1 H1 b S1 f1 r1 p1 => by
    cases b with
    | true => exact .of r1 p1
    | false => exact .of r1 p1)
theorem q_not (ha : PE X a (tE X.K cA W ma)) : PE X (.UnaryOp .Not a pos) (tE X.K cA W (eNo ma)) := PEi (pe_not ha) fun σ H Q ⟨B, ι, e, S, re, p⟩ =>
  .of re (po_bind re p fun ι1 v1 H1 d1 S1 f1 r1 rd1 p1 => by
    cases d1 with
    | bl k => exact ⟨k, rd1.bl, p1 ι1 _ H1 Fr.refl r1.rs RD.mk_bl⟩
    | _ => exact p1.elim)
theorem q_one {op : BoolOp} (ha : PE X a (tE X.K cA W ma)) : PE X (.BoolOp op [a] pos) (tE X.K cA W ma) := pe_one ha
theorem q_and (ha : PE X a (tE X.K cA W ma)) (hb : PE X (.BoolOp .And (b :: rest) pos) (tE X.K cA W mb)) : PE X (.BoolOp .And (a :: b :: rest) pos) (tE X.K cA W (eAn ma mb)) := PEi (pe_and ha hb) fun σ H Q ⟨B, ι, e, S, re, p⟩ =>
  .of re (po_bind re p fun ι1 v1 H1 d1 S1 f1 r1 rd1 p1 => by
    cases d1 with
    | bl k =>
      refine ⟨k, rd1.bl, ?_⟩
      cases k with
      | true => exact .of r1 p1
      | false => exact p1 ι1 _ H1 Fr.refl r1.rs RD.mk_bl
    | _ => exact p1.elim)
theorem q_or (ha : PE X a (tE X.K cA W ma)) (hb : PE X (.BoolOp .Or (b :: rest) pos) (tE X.K cA W mb)) : PE X (.BoolOp .Or (a :: b :: rest) pos) (tE X.K cA W (eO ma mb)) := PEi (pe_or ha hb) fun σ H Q ⟨B, ι, e, S, re, p⟩ =>
  .of re (po_bind re p fun ι1 v1 H1 d1 S1 f1 r1 rd1 p1 => by
    cases d1 with
    | bl k =>
      refine ⟨k, rd1.bl, ?_⟩
      cases k with
      | false => exact .of r1 p1
      | true => exact p1 ι1 _ H1 Fr.refl r1.rs RD.mk_bl
    | _ => exact p1.elim)
variable {es : List Expr} {xs : MA}
theorem a_nil : PA X [] (tA X.K cA W aN) := PAi pa_nil fun σ H Q ⟨B, ι, e, S, re, p⟩ => p ι [] H Fr.refl re.rs RDs.nil
theorem a_cons (ha : PE X a (tE X.K cA W ma)) (hr : PA X es (tA X.K cA W xs)) (hs : starEach (a :: es) X.env = (false, eval a X.env) :: starEach es X.env := by rfl) : PA X (a :: es) (tA X.K cA W (aC ma xs)) := PAi (pa_cons ha hr hs) fun σ H Q ⟨B, ι, e, S, re, p⟩ =>
  .of re (po_bindA re p fun ι1 v1 H1 d1 S1 f1 r1 rd1 p1 => .of r1 (poA_bindA r1 p1 fun ι2 vs2 H2 ds2 S2 f2 r2 rd2 p2 => p2 ι2 _ H2 Fr.refl r2.rs (.cons (RD.fr f2 _ _ rd1) rd2)))
theorem sizeL : (sizeLine : Nat) = 16777216 := sizeLine_eq
theorem same_new {H : Hp} {p : Addr} {o : HO} (h : H p = none) : Same H (upd H p o) := fun b x e => by
  rw [upd_ne (ne_of_none e h)]
  exact e
theorem not_B {K : PySem.W.Frag} {B : Addr → Prop} {ι : List Addr} {S : Sto} {H : Hp} (r : RS K cA B ι S H) {p : Addr} (h : H p = none) : ¬ B p := fun m => by
  obtain ⟨_, o, e⟩ := r.nB p m
  rw [h] at e; cases e
theorem not_in {K : PySem.W.Frag} {B : Addr → Prop} {ι : List Addr} {S : Sto} {H : Hp} (r : RS K cA B ι S H) {p : Addr} (h : H p = none) : p ∉ ι := fun m => by
  obtain ⟨o, e⟩ := r.there m
  rw [h] at e; cases e
end
end DL

/-! The data layer: operators. -/
namespace DL
open PySem PySem.Spec PyProof.Rows L2

def view (S : Sto) : D → D
  | .obj n => match S[n]? with
    | some (.lst ds) => .lst ds
    | some (.dct ks ds) => .dct ks ds
    | _ => .obj n
  | .scr ds => .lst ds
  | d => d
/-- not a list of the module -/
def noS : D → Bool
  | .scr _ => false
  | _ => true
section
variable {X : Cx} {K : PySem.W.Frag} {cA : Str → Addr} {W : WX} {B : Addr → Prop} {ι : List Addr} {S : Sto} {H : Hp}
theorem v_lstR (rs : RS K cA B ι S H) {d : D} {v : V} {ds : List D} (rd : RD K B ι H d v) (e : view S d = .lst ds) (hn : noS d = true) : ∃ a xs, v = .ref a ∧ H a = some (.lst xs) ∧ RDs K B ι H ds xs := by
  cases d with
  | obj n =>
    rw [view] at e
    split at e
    · rename_i es q
      cases e
      obtain ⟨a, h1, xs, h2, h3⟩ := rs.at_ n _ q
      obtain ⟨a', rfl, h4⟩ := rd.obj
      rw [h1] at h4; cases h4
      exact ⟨a, xs, rfl, h2, h3⟩
    · cases e
    · cases e
  | lst es =>
    cases e
    obtain ⟨a, xs, rfl, h, r⟩ := rd.lst
    exact ⟨a, xs, rfl, h.2.2, r⟩
  | scr es => cases hn
  | _ => cases e
theorem v_lst (rs : RS K cA B ι S H) {d : D} {v : V} {ds : List D} (rd : RD K B ι H d v) (e : view S d = .lst ds) : ∃ a xs, v = .ref a ∧ SqL K H a xs ∧ RDs K B ι H ds xs := by
  by_cases hn : noS d = true
  · obtain ⟨a, xs, h1, h2, h3⟩ := v_lstR rs rd e hn
    exact ⟨a, xs, h1, .inl (.inl h2), h3⟩
  · cases d with
    | scr es =>
      cases e
      obtain ⟨a, xs, rfl, h, r⟩ := rd.scr
      exact ⟨a, xs, rfl, h.sq, r⟩
    | _ => exact absurd rfl hn
theorem v_dct (rs : RS K cA B ι S H) {d : D} {v : V} {ks : List Key} {ds : List D} (rd : RD K B ι H d v) (e : view S d = .dct ks ds) : ∃ a xs, v = .ref a ∧ H a = some (.dK (ks.zip xs)) ∧ ks.length = xs.length ∧ RDs K B ι H ds xs := by
  cases d with
  | obj n =>
    rw [view] at e
    split at e
    · cases e
    · rename_i es q
      cases e
      obtain ⟨a, h1, xs, h2, h3, h5⟩ := rs.at_ n _ q
      obtain ⟨a', rfl, h4⟩ := rd.obj
      rw [h1] at h4; cases h4
      exact ⟨a, xs, rfl, h2, h3, h5⟩
    · cases e
  | dct ks' es =>
    cases e
    obtain ⟨a, xs, rfl, h1, h2, h3, h4, r⟩ := rd.dct
    exact ⟨a, xs, rfl, h3, h4, r⟩
  | _ => cases e
theorem view_ne {d : D} {r : D} (e : view S d = r) (h1 : ∀ ds, r ≠ .lst ds) (h2 : ∀ ks ds, r ≠ .dct ks ds) : d = r := by
  cases d with
  | obj n =>
    rw [view] at e
    split at e
    · exact absurd e.symm (h1 _)
    · exact absurd e.symm (h2 _ _)
    · exact e
  | scr ds => exact absurd e.symm (h1 _)
  | _ => exact e
theorem v_int {d : D} {v : V} {i : Int} (rd : RD K B ι H d v) (e : view S d = .int i) : v = .int i := by
  have := view_ne e (by intro _ z; cases z) (by intro _ _ z; cases z); subst this; exact rd.int
theorem v_str {d : D} {v : V} {i : Str} (rd : RD K B ι H d v) (e : view S d = .str i) : v = .str i := by
  have := view_ne e (by intro _ z; cases z) (by intro _ _ z; cases z); subst this; exact rd.str
theorem v_bl {d : D} {v : V} {i : Bool} (rd : RD K B ι H d v) (e : view S d = .bl i) : v = .bl i := by
  have := view_ne e (by intro _ z; cases z) (by intro _ _ z; cases z); subst this; exact rd.bl
theorem v_non {d : D} {v : V} (rd : RD K B ι H d v) (e : view S d = .non) : v = .non := by
  have := view_ne e (by intro _ z; cases z) (by intro _ _ z; cases z); subst this; exact rd.non
theorem v_tup {d : D} {v : V} {ds : List D} (rd : RD K B ι H d v) (e : view S d = .tup ds) : ∃ a xs, v = .ref a ∧ FT K B ι H a xs ∧ RDs K B ι H ds xs := by
  have := view_ne e (by intro _ z; cases z) (by intro _ _ z; cases z); subst this; exact rd.tup

/-- a new thing that stands still -/
theorem new_tup (rs : RS K cA B ι S H) {p : Addr} (np : H p = none) {ds : List D} {xs : List V} (r : RDs K B ι H ds xs) : RD K B ι (upd H p (.tup xs)) (.tup ds) (.ref p) :=
  .mk_tup (.inl ⟨not_in rs np, not_B rs np, .inl upd_same⟩) (RDs.fr (Fr.same (same_new np)) _ _ r)
theorem new_lst (rs : RS K cA B ι S H) {p : Addr} (np : H p = none) {ds : List D} {xs : List V} (r : RDs K B ι H ds xs) : RD K B ι (upd H p (.lst xs)) (.lst ds) (.ref p) :=
  .mk_lst ⟨not_in rs np, not_B rs np, upd_same⟩ (RDs.fr (Fr.same (same_new np)) _ _ r)
theorem same_refl : Same H H := fun _ _ e => e

/-! ### arithmetic -/
theorem o_mk {f : Value → Value → Sem Value} {g : Sto → D → D → Option D} {r : R2} (h : OpR X f r) (k : ∀ (cA : Str → Addr) (B : Addr → Prop) (ι : List Addr) (S : Sto) (H : Hp) (x y : V) (a b d : D) (Q : VK), RS X.K cA B ι S H → RD X.K B ι H a x → RD X.K B ι H b y → g S a b = some d →
    (∀ v H', Same H H' → RD X.K B ι H' d v → Q v H') → r x y H Q) : O2 X f g := ⟨r, h, k⟩

/-- list + list -/
def rCatL : R2 := fun x y H Q => ∃ l b xs zs, x = .ref l ∧ y = .ref b ∧ Rd H l (.lst xs) ∧ Rd H b (.lst zs) ∧ xs.length + zs.length ≤ sizeLine ∧ ∀ p, H p = none → Q (.ref p) (upd H p (.lst (xs ++ zs)))
theorem lstR {pins : List (Addr × Obj)} {σ : L2.St} {H : Hp} {s : Shared} {p : Addr} {xs : List V} (I : Inv X pins σ H s) (h : Rd H p (.lst xs)) :
    ∃ (its : List Value) (n : Nat), Vals xs its ∧ xs.length = its.length ∧ s.heap.get? p = some { cls := .type "list", data := .seq its.toArray n } := by
  obtain ⟨_, its, n, r, e⟩ := h.ok I.hok
  exact ⟨its, n, r, r.length, e⟩
theorem op_catL : OpR X (binaryOp .Add) rCatL := by
  intro pins s σ H x y v u Q I rx ry h
  obtain ⟨l, b, xs, zs, rfl, rfl, hH, hB, hz, q⟩ := h
  cases rx
  cases ry
  obtain ⟨its, n, r, hl, e⟩ := lstR I hH
  obtain ⟨its2, n2, r2, hl2, e2⟩ := lstR I hB
  refine PySem.P.add_list e e2 ?_ (by rw [List.size_toArray, List.size_toArray]; omega)
  have ea : its.toArray ++ its2.toArray = (its ++ its2).toArray := by simp
  rw [ea]
  exact ⟨.ref _, _, I.lnew (t' := s.toks) (r.append r2) (by rw [List.length_append]; omega), rfl, q _ I.fresh⟩

def gAdd (S : Sto) (a b : D) : Option D := match view S a, view S b with
  | .int i, .int j => some (.int (i + j))
  | .str x, .str y => if x.length + y.length ≤ 16777216 then some (.str (x ++ y)) else none
  | .tup xs, .tup ys => if xs.length + ys.length ≤ 16777216 then some (.tup (xs ++ ys)) else none
  | .lst xs, .lst ys => if (xs.length + ys.length ≤ 16777216 ∧ noS a = true) ∧ noS b = true then some (.lst (xs ++ ys)) else none
  | _, _ => none
theorem o_add : O2 X (binaryOp .Add) gAdd := o_mk (op_add.or (op_add_str.or (op_catA.or op_catL))) fun cA B ι S H x y a b d Q rs ra rb hg q => by
  unfold gAdd at hg
  split at hg
  · rename_i i j e1 e2
    cases hg
    exact .inl ⟨i, j, v_int ra e1, v_int rb e2, q _ H same_refl RD.mk_int⟩
  · rename_i i j e1 e2
    split at hg
    · rename_i hz
      cases hg
      exact .inr (.inl ⟨i, j, v_str ra e1, v_str rb e2, by rw [sizeL]; exact hz, q _ H same_refl RD.mk_str⟩)
    · cases hg
  · rename_i xs ys e1 e2
    split at hg
    · rename_i hz
      cases hg
      obtain ⟨p, us, rfl, h1, r1⟩ := v_tup ra e1
      obtain ⟨p2, us2, rfl, h2, r2⟩ := v_tup rb e2
      refine .inr (.inr (.inl ⟨p, p2, us, us2, rfl, rfl, h1.sq, h2.sq, by rw [sizeL, ← r1.len, ← r2.len]; exact hz, fun z => ?_, fun _ z => ?_, fun _ _ n np => ?_⟩))
      · subst z
        have : xs = [] := by
          have := r1.len
          cases xs with
          | nil => rfl
          | cons _ _ => simp at this
        subst this
        exact q _ H same_refl (.mk_tup h2 r2)
      · subst z
        have : ys = [] := by
          have := r2.len
          cases ys with
          | nil => rfl
          | cons _ _ => simp at this
        subst this
        exact q _ H same_refl (by rw [List.append_nil]; exact .mk_tup h1 r1)
      · exact q _ _ (same_new np) (new_tup rs np (r1.append r2))
    · cases hg
  · rename_i xs ys e1 e2
    split at hg
    · rename_i hz
      cases hg
      obtain ⟨p, us, rfl, h1, r1⟩ := v_lstR rs ra e1 hz.1.2
      obtain ⟨p2, us2, rfl, h2, r2⟩ := v_lstR rs rb e2 hz.2
      exact .inr (.inr (.inr ⟨p, p2, us, us2, rfl, rfl, .inl h1, .inl h2, by rw [sizeL, ← r1.len, ← r2.len]; exact hz.1.1, fun n np => q _ _ (same_new np) (new_lst rs np (r1.append r2))⟩))
    · cases hg
  · cases hg
def gSub (S : Sto) (a b : D) : Option D := match a, b with
  | .int i, .int j => some (.int (i - j))
  | _, _ => none
theorem o_sub : O2 X (binaryOp .Sub) gSub := o_mk op_sub fun cA B ι S H x y a b d Q rs ra rb hg q => by
  unfold gSub at hg
  split at hg
  · cases hg
    exact ⟨_, _, ra.int, rb.int, q _ H same_refl RD.mk_int⟩
  · cases hg
/-- text * n -/
def srep (x : Str) (n : Nat) : Str := ⟨(List.replicate n x.cps.toList).flatten.toArray⟩
theorem foldl_arr (a : Array Nat) : ∀ (n : Nat) (acc : Array Nat), ((List.replicate n a).foldl (· ++ ·) acc).toList = acc.toList ++ (List.replicate n a.toList).flatten
  | 0, acc => by simp
  | n + 1, acc => by
    rw [List.replicate_succ, List.foldl_cons, foldl_arr a n, List.replicate_succ, List.flatten_cons, Array.toList_append, List.append_assoc]
theorem mul_srep (x : Str) (n : Int) : Txt.mul x n = srep x n.toNat := by
  have ext : ∀ a b : Str, a.cps.toList = b.cps.toList → a = b := fun a b h => by
    cases a; cases b; exact congrArg Str.mk (Array.toList_inj.mp h)
  unfold Txt.mul srep
  by_cases h1 : n < 1
  · rw [if_pos h1]
    have : n.toNat = 0 := by omega
    rw [this]; rfl
  · rw [if_neg h1]
    by_cases h2 : (n == 1 || x.length == 0) = true
    · rw [if_pos h2]
      apply ext
      rw [Bool.or_eq_true, beq_iff_eq, beq_iff_eq] at h2
      rcases h2 with rfl | h2
      · simp
      · have : x.cps.toList = [] := by
          apply List.eq_nil_of_length_eq_zero
          rw [Array.length_toList]; exact h2
        simp [this]
    · rw [if_neg h2]
      apply ext
      rw [foldl_arr]; simp
theorem srep_length (x : Str) (n : Nat) : (srep x n).length = n * x.length := by
  show ((List.replicate n x.cps.toList).flatten.toArray).size = _
  rw [List.size_toArray, List.length_flatten, List.map_replicate, List.sum_replicate_nat, Array.length_toList]; rfl
def rRepS : R2 := fun x y H Q => ∃ z k, x = .str z ∧ y = .int k ∧ k < 2 ^ 31 ∧ -(2 ^ 31) < k ∧ k.toNat * z.length ≤ 16777216 ∧ Q (.str (srep z k.toNat)) H
theorem op_repS : OpR X (binaryOp .Mult) rRepS := by
  intro pins s σ H x y v u Q I rx ry h
  obtain ⟨z, k, rfl, rfl, hk, hk2, hz, q⟩ := h
  obtain ⟨t, rfl⟩ := rx
  obtain ⟨t', rfl⟩ := ry
  refine SB.mul ⟨?_, fun h1 h2 => ?_, fun h1 h2 => ?_⟩ fun t2 k2 => ⟨.str _, H, I.tok _, ⟨_, by rw [mul_srep]⟩, q⟩
  · rw [Bool.or_eq_false_iff]
    exact ⟨decide_eq_false (by omega), decide_eq_false (by omega)⟩
  · have hk0 : 0 < k := by omega
    have e : (k.toNat : Int) = k := by omega
    have : (z.length : Int) * k ≤ 16777216 := by
      have : ((k.toNat * z.length : Nat) : Int) ≤ 16777216 := Int.ofNat_le.mpr hz
      rw [Int.natCast_mul, e, Int.mul_comm] at this
      exact this
    have : (z.length : Int) ≤ 16777216 / k := (Int.le_ediv_iff_mul_le hk0).mpr this
    have : (16777216 : Int) / k ≤ (2 ^ 63 - 1) / k := Int.ediv_le_ediv hk0 (by decide)
    omega
  · unfold Builtin.Str.tooLong
    refine decide_eq_false ?_
    rw [sizeL, Nat.mul_comm]
    omega
def gMul (S : Sto) (a b : D) : Option D := match view S a, view S b with
  | .int i, .int j => if (-(2 ^ 64) < i ∧ i < 2 ^ 64) ∨ (-(2 ^ 64) < j ∧ j < 2 ^ 64) then some (.int (i * j)) else none
  | .str x, .int k => if k < 2 ^ 31 ∧ -(2 ^ 31) < k ∧ k.toNat * x.length ≤ 16777216 then some (.str (srep x k.toNat)) else none
  | .tup xs, .int k => if xs ≠ [] ∧ 2 ≤ k ∧ k ≤ 1000 ∧ xs.length ≤ 1000 then some (.tup (List.replicate k.toNat xs).flatten) else none
  | _, _ => none
theorem RDs.rep {ds : List D} {xs : List V} (r : RDs K B ι H ds xs) : ∀ n, RDs K B ι H (List.replicate n ds).flatten (List.replicate n xs).flatten
  | 0 => RDs.nil
  | n + 1 => by rw [List.replicate_succ, List.replicate_succ, List.flatten_cons, List.flatten_cons]; exact r.append (RDs.rep r n)
end
end DL

/-! The data layer: more operators, comparisons, places, builtins. -/
namespace DL
open PySem PySem.Spec PyProof.Rows L2
section
variable {X : Cx} {K : PySem.W.Frag} {cA : Str → Addr} {W : WX} {B : Addr → Prop} {ι : List Addr} {S : Sto} {H : Hp}
theorem o_mul : O2 X (binaryOp .Mult) gMul := o_mk (op_mul.or (op_repS.or op_repT)) fun cA B ι S H x y a b d Q rs ra rb hg q => by
  unfold gMul at hg
  split at hg
  · rename_i i j e1 e2
    split at hg
    · rename_i hz
      cases hg
      exact .inl ⟨i, j, v_int ra e1, v_int rb e2, hz, q _ H same_refl RD.mk_int⟩
    · cases hg
  · rename_i i j e1 e2
    split at hg
    · rename_i hz
      cases hg
      exact .inr (.inl ⟨i, j, v_str ra e1, v_int rb e2, hz.1, hz.2.1, hz.2.2, q _ H same_refl RD.mk_str⟩)
    · cases hg
  · rename_i xs k e1 e2
    split at hg
    · rename_i hz
      cases hg
      obtain ⟨p, us, rfl, h1, r1⟩ := v_tup ra e1
      refine .inr (.inr ⟨p, k, us, rfl, v_int rb e2, h1.sq, fun z => ?_, hz.2.1, hz.2.2.1, by rw [← r1.len]; exact hz.2.2.2, fun n np => q _ _ (same_new np) (new_tup rs np (r1.rep _))⟩)
      subst z
      refine hz.1 ?_
      have := r1.len
      cases xs with
      | nil => rfl
      | cons _ _ => simp at this
    · cases hg
  · cases hg
def gFdiv (S : Sto) (a b : D) : Option D := match a, b with
  | .int i, .int j => if 0 < j ∧ j < 1073741824 then some (.int (i / j)) else none
  | _, _ => none
theorem o_fdiv : O2 X (binaryOp .FloorDiv) gFdiv := o_mk op_fdiv fun cA B ι S H x y a b d Q rs ra rb hg q => by
  unfold gFdiv at hg
  split at hg
  · split at hg
    · rename_i hz
      cases hg
      exact ⟨_, _, ra.int, rb.int, hz, q _ H same_refl RD.mk_int⟩
    · cases hg
  · cases hg
def gMod (S : Sto) (a b : D) : Option D := match a, b with
  | .int i, .int j => if 0 < j then some (.int (i % j)) else none
  | _, _ => none
theorem o_mod : O2 X (binaryOp .Mod) gMod := o_mk op_mod fun cA B ι S H x y a b d Q rs ra rb hg q => by
  unfold gMod at hg
  split at hg
  · split at hg
    · rename_i hz
      cases hg
      exact ⟨_, _, ra.int, rb.int, hz, q _ H same_refl RD.mk_int⟩
    · cases hg
  · cases hg
def gPow (S : Sto) (a b : D) : Option D := match a, b with
  | .int i, .int j => if 0 ≤ j ∧ j ≤ 1000000 ∧ i.natAbs < 2 ^ 64 then some (.int (i ^ j.toNat)) else none
  | _, _ => none
theorem o_pow : O2 X (binaryOp .Pow) gPow := o_mk op_pow fun cA B ι S H x y a b d Q rs ra rb hg q => by
  unfold gPow at hg
  split at hg
  · split at hg
    · rename_i hz
      cases hg
      exact ⟨_, _, ra.int, rb.int, hz, q _ H same_refl RD.mk_int⟩
    · cases hg
  · cases hg

/-! ### comparisons -/
def gI (p : Int → Int → Bool) (S : Sto) (a b : D) : Option D := match a, b with
  | .int i, .int j => some (.bl (p i j))
  | _, _ => none
theorem o_I {f : Value → Value → Sem Value} {p : Int → Int → Bool} (h : OpR X f (rI0 fun i j => .bl (p i j))) : O2 X f (gI p) := o_mk h fun cA B ι S H x y a b d Q rs ra rb hg q => by
  unfold gI at hg
  split at hg
  · cases hg
    exact ⟨_, _, ra.int, rb.int, q _ H same_refl RD.mk_bl⟩
  · cases hg
def iLt (i j : Int) : Bool := decide (i < j)
def iLe (i j : Int) : Bool := decide (i ≤ j)
def iGt (i j : Int) : Bool := decide (j < i)
def iGe (i j : Int) : Bool := decide (j ≤ i)
theorem o_gtI : O2 X (compareOp .Gt) (gI iGt) := o_I op_gt
theorem o_geI : O2 X (compareOp .GtE) (gI iGe) := o_I op_ge
/-- <, <= of numbers, of one sign texts -/
def gLt (S : Sto) (a b : D) : Option D := match a, b with
  | .int i, .int j => some (.bl (decide (i < j)))
  | .str x, .str y => some (.bl (decide (x.cps.toList < y.cps.toList)))
  | _, _ => none
theorem o_lt : O2 X (compareOp .Lt) gLt := o_mk (op_lt.or op_lt_str) fun cA B ι S H x y a b d Q rs ra rb hg q => by
  unfold gLt at hg
  split at hg
  · cases hg
    exact .inl ⟨_, _, ra.int, rb.int, q _ H same_refl RD.mk_bl⟩
  · cases hg
    exact .inr ⟨_, _, ra.str, rb.str, q _ H same_refl RD.mk_bl⟩
  · cases hg
def gLe (S : Sto) (a b : D) : Option D := match a, b with
  | .int i, .int j => some (.bl (decide (i ≤ j)))
  | .str x, .str y => some (.bl (!decide (y.cps.toList < x.cps.toList)))
  | _, _ => none
theorem o_le : O2 X (compareOp .LtE) gLe := o_mk (op_le.or op_le_str) fun cA B ι S H x y a b d Q rs ra rb hg q => by
  unfold gLe at hg
  split at hg
  · cases hg
    exact .inl ⟨_, _, ra.int, rb.int, q _ H same_refl RD.mk_bl⟩
  · cases hg
    exact .inr ⟨_, _, ra.str, rb.str, q _ H same_refl RD.mk_bl⟩
  · cases hg

/-! ### == -/
mutual
def pd : D → Option PyData
  | .non => some .none
  | .bl b => some (.bool b)
  | .int i => some (.int i)
  | .str x => some (.str x)
  | .tup ds => (pds ds).map .tuple
  | .lst ds => (pds ds).map .list
  | .dct _ _ => none
  | .obj _ => none
  | .scr ds => (pds ds).map .list
def pds : List D → Option (List PyData)
  | [] => some []
  | d :: ds => match pd d, pds ds with | some x, some xs => some (x :: xs) | _, _ => none
end
mutual
theorem pd_dp : ∀ (d : D) (v : V) (p : PyData), RD K B ι H d v → pd d = some p → Dp K H v p
  | .non, v, p, h, e => by rw [pd] at e; cases e; rw [h.non]; exact .non
  | .bl b, v, p, h, e => by rw [pd] at e; cases e; rw [h.bl]; exact .bl b
  | .int b, v, p, h, e => by rw [pd] at e; cases e; rw [h.int]; exact .int b
  | .str b, v, p, h, e => by rw [pd] at e; cases e; rw [h.str]; exact .str b
  | .tup ds, v, p, h, e => by
    rw [pd] at e
    cases q : pds ds with
    | none => rw [q] at e; cases e
    | some ps =>
      rw [q] at e; cases e
      obtain ⟨a, xs, rfl, h1, r⟩ := h.tup
      exact .tup h1.sq (pds_dp ds xs ps r q)
  | .lst ds, v, p, h, e => by
    rw [pd] at e
    cases q : pds ds with
    | none => rw [q] at e; cases e
    | some ps =>
      rw [q] at e; cases e
      obtain ⟨a, xs, rfl, h1, r⟩ := h.lst
      exact .lst h1.sq (pds_dp ds xs ps r q)
  | .dct _ _, v, p, h, e => by rw [pd] at e; cases e
  | .obj _, v, p, h, e => by rw [pd] at e; cases e
  | .scr ds, v, p, h, e => by
    rw [pd] at e
    cases q : pds ds with
    | none => rw [q] at e; cases e
    | some ps =>
      rw [q] at e; cases e
      obtain ⟨a, xs, rfl, h1, r⟩ := h.scr
      exact .lst h1.sq (pds_dp ds xs ps r q)
theorem pds_dp : ∀ (ds : List D) (vs : List V) (ps : List PyData), RDs K B ι H ds vs → pds ds = some ps → DpAll K H vs ps
  | [], vs, ps, h, e => by rw [pds] at e; cases e; rw [h.nil_inv]; exact .nil
  | d :: ds, vs, ps, h, e => by
    rw [pds] at e
    obtain ⟨v, r, rfl, h1, h2⟩ := h.cons_inv
    cases q1 : pd d with
    | none => rw [q1] at e; cases e
    | some p1 =>
      cases q2 : pds ds with
      | none => rw [q1, q2] at e; cases e
      | some p2 =>
        rw [q1, q2] at e; cases e
        exact .cons (pd_dp d v p1 h1 q1) (pds_dp ds r p2 h2 q2)
end
theorem view_dp (rs : RS K cA B ι S H) {d : D} {v : V} {p : PyData} (h : RD K B ι H d v) (e : pd (view S d) = some p) : Dp K H v p := by
  cases q : view S d with
  | lst ds =>
    rw [q, pd] at e
    cases q2 : pds ds with
    | none => rw [q2] at e; cases e
    | some ps =>
      rw [q2] at e; cases e
      obtain ⟨a, xs, rfl, h1, r⟩ := v_lst rs h q
      exact .lst h1 (pds_dp ds xs ps r q2)
  | dct ks ds => rw [q, pd] at e; cases e
  | obj n => rw [q, pd] at e; cases e
  | _ =>
    have := view_ne q (by intro _ z; cases z) (by intro _ _ z; cases z)
    subst this
    rw [q] at e
    exact pd_dp _ _ _ h e
def fla : D → Option V
  | .non => some .non | .bl b => some (.bl b) | .int i => some (.int i) | .str x => some (.str x) | _ => none
theorem fla_V {a : D} {x v : V} (ra : RD K B ι H a x) (h : fla a = some v) : x = v ∧ flatV x = true := by
  cases a with
  | non => cases h; rw [ra.non]; exact ⟨rfl, rfl⟩
  | bl j => cases h; rw [ra.bl]; exact ⟨rfl, rfl⟩
  | int j => cases h; rw [ra.int]; exact ⟨rfl, rfl⟩
  | str j => cases h; rw [ra.str]; exact ⟨rfl, rfl⟩
  | _ => cases h
/-- equal? -/
def deq0 (a b : D) : Option Bool := match pd a, pd b with
  | some d, some e => if SeqAt.shaped d = true ∧ SeqAt.shaped e = true then some (PyData.eqv d e) else none
  | _, _ => none
def deq (a b : D) : Option Bool := match fla a, fla b with
  | some x, some y => if scal x y = true then some (decide (x = y)) else deq0 a b
  | _, _ => deq0 a b
def gEq (S : Sto) (a b : D) : Option D := (deq (view S a) (view S b)).map .bl
def gNe (S : Sto) (a b : D) : Option D := (deq (view S a) (view S b)).map fun k => .bl (!k)
theorem deq_dp (rs : RS K cA B ι S H) {a b : D} {x y : V} {k : Bool} (ra : RD K B ι H a x) (rb : RD K B ι H b y) (h : deq (view S a) (view S b) = some k) :
    (scal x y = true ∧ decide (x = y) = k) ∨ ∃ d e, Dp K H x d ∧ Dp K H y e ∧ SeqAt.shaped d = true ∧ SeqAt.shaped e = true ∧ PyData.eqv d e = k := by
  have deep : deq0 (view S a) (view S b) = some k → ∃ d e, Dp K H x d ∧ Dp K H y e ∧ SeqAt.shaped d = true ∧ SeqAt.shaped e = true ∧ PyData.eqv d e = k := fun h => by
    unfold deq0 at h
    split at h
    · rename_i d e h1 h2
      split at h
      · rename_i hs
        exact ⟨d, e, view_dp rs ra h1, view_dp rs rb h2, hs.1, hs.2, Option.some.inj h⟩
      · cases h
    · cases h
  have vf : ∀ {c : D} {z v : V}, RD K B ι H c z → fla (view S c) = some v → z = v := fun {c z v} r q => by
    cases e : view S c with
    | lst _ => rw [e] at q; cases q
    | dct _ _ => rw [e] at q; cases q
    | _ =>
      have := view_ne e (by intro _ z; cases z) (by intro _ _ z; cases z)
      subst this
      rw [e] at q
      exact (fla_V r q).1
  unfold deq at h
  split at h
  · rename_i u v h1 h2
    split at h
    · rename_i hs
      have := vf ra h1
      have := vf rb h2
      subst x y
      exact .inl ⟨hs, Option.some.inj h⟩
    · exact .inr (deep h)
  · exact .inr (deep h)
theorem o_eq (hu : X.A.units + 64 < cLine) : O2 X (compareOp .Eq) gEq := o_mk (op_eq.or (op_eqD hu)) fun cA B ι S H x y a b d Q rs ra rb hg q => by
  unfold gEq at hg
  cases h : deq (view S a) (view S b) with
  | none => rw [h] at hg; cases hg
  | some k =>
    rw [h] at hg; cases hg
    rcases deq_dp rs ra rb h with ⟨h1, rfl⟩ | ⟨p, e, h1, h2, h3, h4, rfl⟩
    · exact .inl ⟨h1, q _ H same_refl RD.mk_bl⟩
    · exact .inr ⟨p, e, h1, h2, h3, h4, q _ H same_refl RD.mk_bl⟩
theorem o_ne (hu : X.A.units + 64 < cLine) : O2 X (compareOp .NotEq) gNe := o_mk (op_ne.or (op_neD hu)) fun cA B ι S H x y a b d Q rs ra rb hg q => by
  unfold gNe at hg
  cases h : deq (view S a) (view S b) with
  | none => rw [h] at hg; cases hg
  | some k =>
    rw [h] at hg; cases hg
    rcases deq_dp rs ra rb h with ⟨h1, rfl⟩ | ⟨p, e, h1, h2, h3, h4, rfl⟩
    · exact .inl ⟨h1, q _ H same_refl RD.mk_bl⟩
    · exact .inr ⟨p, e, h1, h2, h3, h4, q _ H same_refl RD.mk_bl⟩

/-! ### is -/
/-- the same None, True, False? -/
def dis (a : D) : D → Option Bool
  | .non => some (match a with | .non => true | _ => false)
  | .bl k => some (match a with | .bl j => j == k | _ => false)
  | _ => none
def rIs (neg : Bool) : R2 := fun x y H Q => (y = .non ∨ ∃ k, y = .bl k) ∧ Q (.bl (if neg then !decide (x = y) else decide (x = y))) H
theorem is_dec {x y : V} {v u : Value} (rx : RelV x v) (ry : RelV y u) (hy : y = .non ∨ ∃ k, y = .bl k) : plainIs v u = true ∧ (v == u) = decide (x = y) := by
  rcases hy with rfl | ⟨k, rfl⟩ <;> cases ry <;> (cases x <;> first
    | (cases rx; exact ⟨rfl, rfl⟩)
    | (rename_i b; cases rx; cases b <;> cases k <;> exact ⟨rfl, by first | rfl | decide⟩)
    | (obtain ⟨t, rfl⟩ := rx; exact ⟨rfl, rfl⟩))
theorem op_isV : OpR X (compareOp .Is) (rIs false) := by
  intro pins s σ H x y v u Q I rx ry h
  obtain ⟨hy, q⟩ := h
  obtain ⟨h1, h2⟩ := is_dec rx ry hy
  exact wpAny_is_plain h1 (by rw [h2]; exact ⟨.bl _, H, I, rfl, q⟩)
theorem op_isNotV : OpR X (compareOp .IsNot) (rIs true) := by
  intro pins s σ H x y v u Q I rx ry h
  obtain ⟨hy, q⟩ := h
  obtain ⟨h1, h2⟩ := is_dec rx ry hy
  exact wpAny_isNot_plain h1 (by rw [h2]; exact ⟨.bl _, H, I, rfl, q⟩)
theorem dis_V {a b : D} {x y : V} {k : Bool} (ra : RD K B ι H a x) (rb : RD K B ι H b y) (h : dis a b = some k) : (y = .non ∨ ∃ k, y = .bl k) ∧ decide (x = y) = k := by
  cases b with
  | non =>
    have := rb.non
    subst this
    refine ⟨.inl rfl, ?_⟩
    have h := Option.some.inj h
    subst h
    cases a with
    | non => rw [ra.non]; rfl
    | bl j => rw [ra.bl]; rfl
    | int j => rw [ra.int]; rfl
    | str j => rw [ra.str]; rfl
    | tup j => obtain ⟨_, _, rfl, _⟩ := ra.tup; rfl
    | lst j => obtain ⟨_, _, rfl, _⟩ := ra.lst; rfl
    | dct j _ => obtain ⟨_, _, rfl, _⟩ := ra.dct; rfl
    | obj j => obtain ⟨_, rfl, _⟩ := ra.obj; rfl
    | scr j => obtain ⟨_, _, rfl, _⟩ := ra.scr; rfl
  | bl z =>
    have := rb.bl
    subst this
    refine ⟨.inr ⟨_, rfl⟩, ?_⟩
    have h := Option.some.inj h
    subst h
    cases a with
    | non => rw [ra.non]; rfl
    | bl j => rw [ra.bl]; cases j <;> cases z <;> rfl
    | int j => rw [ra.int]; rfl
    | str j => rw [ra.str]; rfl
    | tup j => obtain ⟨_, _, rfl, _⟩ := ra.tup; rfl
    | lst j => obtain ⟨_, _, rfl, _⟩ := ra.lst; rfl
    | dct j _ => obtain ⟨_, _, rfl, _⟩ := ra.dct; rfl
    | obj j => obtain ⟨_, rfl, _⟩ := ra.obj; rfl
    | scr j => obtain ⟨_, _, rfl, _⟩ := ra.scr; rfl
  | _ => cases h
def gIs (S : Sto) (a b : D) : Option D := (dis a b).map .bl
def gIsn (S : Sto) (a b : D) : Option D := (dis a b).map fun k => .bl (!k)
theorem o_is : O2 X (compareOp .Is) gIs := o_mk op_isV fun cA B ι S H x y a b d Q rs ra rb hg q => by
  unfold gIs at hg
  cases h : dis a b with
  | none => rw [h] at hg; cases hg
  | some k =>
    rw [h] at hg; cases hg
    obtain ⟨h1, h2⟩ := dis_V ra rb h
    exact ⟨h1, by rw [h2]; exact q _ H same_refl RD.mk_bl⟩
theorem o_isn : O2 X (compareOp .IsNot) gIsn := o_mk op_isNotV fun cA B ι S H x y a b d Q rs ra rb hg q => by
  unfold gIsn at hg
  cases h : dis a b with
  | none => rw [h] at hg; cases hg
  | some k =>
    rw [h] at hg; cases hg
    obtain ⟨h1, h2⟩ := dis_V ra rb h
    exact ⟨h1, by rw [h2]; exact q _ H same_refl RD.mk_bl⟩

/-! ### in -/
def flas : List D → Option (List V)
  | [] => some []
  | d :: ds => match fla d, flas ds with | some x, some xs => some (x :: xs) | _, _ => none
theorem flas_V : ∀ {ds : List D} {xs vs : List V}, RDs K B ι H ds xs → flas ds = some vs → xs = vs ∧ xs.all flatV = true
  | [], xs, vs, r, h => by cases h; rw [r.nil_inv]; exact ⟨rfl, rfl⟩
  | d :: ds, xs, vs, r, h => by
    obtain ⟨v, t, rfl, h1, h2⟩ := r.cons_inv
    unfold flas at h
    split at h
    · rename_i y ys e1 e2
      cases h
      obtain ⟨rfl, f1⟩ := fla_V h1 e1
      obtain ⟨rfl, f2⟩ := flas_V h2 e2
      exact ⟨rfl, by rw [List.all_cons, f1, f2]; rfl⟩
    · cases h
/-- text in text -/
def sin (x y : Str) : Bool := if x.length = 1 then decide (x.cps.getD 0 0 ∈ y.cps.toList) else !(Builtin.Str.occurrences y x 0 y.length 1).isEmpty
theorem one_sign {x : Str} (h : x.length = 1) : x = ⟨#[x.cps.getD 0 0]⟩ := by
  obtain ⟨⟨l⟩⟩ := x
  have h' : l.length = 1 := h
  match l, h' with
  | [c], _ => rfl
def gIn (S : Sto) (a b : D) : Option D := match a, view S b with
  | .str x, .str y => some (.bl (sin x y))
  | a, .tup ds => match fla a, flas ds with | some v, some vs => some (.bl (inV v vs)) | _, _ => none
  | a, .lst ds => match fla a, flas ds with | some v, some vs => some (.bl (inV v vs)) | _, _ => none
  | _, _ => none
theorem o_in : O2 X (compareOp .In) gIn := o_mk (op_in_sign.or (op_in_str.or op_in_seq)) fun cA B ι S H x y a b d Q rs ra rb hg q => by
  unfold gIn at hg
  split at hg
  · rename_i z w e2
    cases hg
    unfold sin at q
    by_cases h : z.length = 1
    · rw [if_pos h] at q
      exact .inl ⟨_, w, by rw [ra.str, ← one_sign h], v_str rb e2, q _ H same_refl RD.mk_bl⟩
    · rw [if_neg h] at q
      exact .inr (.inl ⟨z, w, ra.str, v_str rb e2, q _ H same_refl RD.mk_bl⟩)
  · rename_i ds _ e2
    split at hg
    · rename_i v vs h1 h2
      cases hg
      obtain ⟨p, us, rfl, h3, r⟩ := v_tup rb e2
      obtain ⟨rfl, f1⟩ := fla_V ra h1
      obtain ⟨rfl, f2⟩ := flas_V r h2
      exact .inr (.inr ⟨p, us, rfl, .inr h3.sq, f1, f2, q _ H same_refl RD.mk_bl⟩)
    · cases hg
  · rename_i ds _ e2
    split at hg
    · rename_i v vs h1 h2
      cases hg
      obtain ⟨p, us, rfl, h3, r⟩ := v_lst rs rb e2
      obtain ⟨rfl, f1⟩ := fla_V ra h1
      obtain ⟨rfl, f2⟩ := flas_V r h2
      exact .inr (.inr ⟨p, us, rfl, .inl h3, f1, f2, q _ H same_refl RD.mk_bl⟩)
    · cases hg
  · cases hg
def gNin (S : Sto) (a b : D) : Option D := match a, view S b with
  | .str x, .str y => some (.bl (!sin x y))
  | a, .tup ds => match fla a, flas ds with | some v, some vs => some (.bl (!inV v vs)) | _, _ => none
  | a, .lst ds => match fla a, flas ds with | some v, some vs => some (.bl (!inV v vs)) | _, _ => none
  | _, _ => none
theorem o_nin : O2 X (compareOp .NotIn) gNin := o_mk (op_notIn_sign.or (op_notin_str.or op_notIn_seq)) fun cA B ι S H x y a b d Q rs ra rb hg q => by
  unfold gNin at hg
  split at hg
  · rename_i z w e2
    cases hg
    unfold sin at q
    by_cases h : z.length = 1
    · rw [if_pos h] at q
      exact .inl ⟨_, w, by rw [ra.str, ← one_sign h], v_str rb e2, q _ H same_refl RD.mk_bl⟩
    · rw [if_neg h] at q
      exact .inr (.inl ⟨z, w, ra.str, v_str rb e2, q _ H same_refl RD.mk_bl⟩)
  · rename_i ds _ e2
    split at hg
    · rename_i v vs h1 h2
      cases hg
      obtain ⟨p, us, rfl, h3, r⟩ := v_tup rb e2
      obtain ⟨rfl, f1⟩ := fla_V ra h1
      obtain ⟨rfl, f2⟩ := flas_V r h2
      exact .inr (.inr ⟨p, us, rfl, .inr h3.sq, f1, f2, q _ H same_refl RD.mk_bl⟩)
    · cases hg
  · rename_i ds _ e2
    split at hg
    · rename_i v vs h1 h2
      cases hg
      obtain ⟨p, us, rfl, h3, r⟩ := v_lst rs rb e2
      obtain ⟨rfl, f1⟩ := fla_V ra h1
      obtain ⟨rfl, f2⟩ := flas_V r h2
      exact .inr (.inr ⟨p, us, rfl, .inl h3, f1, f2, q _ H same_refl RD.mk_bl⟩)
    · cases hg
  · cases hg

/-! ### places -/
theorem atI_RD {ds : List D} {xs : List V} {i : Int} {d : D} (r : RDs K B ι H ds xs) (h : atI ds i = some d) : ∃ v, atI xs i = some v ∧ RD K B ι H d v := by
  unfold atI at h ⊢
  rw [← r.len]
  cases e : ixN ds.length i with
  | none => rw [e] at h; cases h
  | some j =>
    rw [e] at h
    exact r.get h
def gIx (S : Sto) (a b : D) : Option D := match view S a, b with
  | .str z, .int i => if z.length ≤ 16777216 then (atI z.cps.toList i).map fun c => .str ⟨#[c]⟩ else none
  | .tup ds, .int i => atI ds i
  | .lst ds, .int i => atI ds i
  | _, _ => none
theorem q_ix {a b : Expr} {ma mb : ME} {pos : Pos} (ha : PE X a (tE X.K cA W ma)) (hb : PE X b (tE X.K cA W mb)) (hs : PlainIx b := by exact fun _ _ => rfl) : PE X (.Subscript a b pos) (tE X.K cA W (e2 gIx ma mb)) :=
  PEi (pe_ix ix_seq ha hb hs) (use2 (f := fun _ _ => pure Value.none) fun cA B ι S H x y a b d Q rs ra rb hg q => by
    unfold gIx at hg
    split at hg
    · rename_i z i e1
      split at hg
      · rename_i hz
        cases e : atI z.cps.toList i with
        | none => rw [e] at hg; cases hg
        | some c =>
          rw [e] at hg; cases hg
          exact .inr (.inr ⟨z, i, c, v_str ra e1, rb.int, by rw [sizeL]; exact hz, e, q _ H same_refl RD.mk_str⟩)
      · cases hg
    · rename_i ds i e1
      obtain ⟨p, us, rfl, h3, r⟩ := v_tup ra e1
      obtain ⟨v, h1, h2⟩ := atI_RD r hg
      exact .inr (.inl ⟨p, us, i, v, rfl, rb.int, h3.sq, h1, q _ H same_refl h2⟩)
    · rename_i ds i e1
      obtain ⟨p, us, rfl, h3, r⟩ := v_lst rs ra e1
      obtain ⟨v, h1, h2⟩ := atI_RD r hg
      exact .inl ⟨p, us, i, v, rfl, rb.int, h3, h1, q _ H same_refl h2⟩
    · cases hg)
end
end DL

/-! The data layer: displays, builtins, slices, statements. -/
namespace DL
open PySem PySem.Spec PyProof.Rows L2
section
variable {X : Cx} {K : PySem.W.Frag} {cA : Str → Addr} {W : WX} {B : Addr → Prop} {ι : List Addr} {S : Sto} {H : Hp}
variable {a b c : Expr} {es : List Expr} {ma mb mc : ME} {xs : MA} {pos : Pos}

/-! ### displays -/
theorem q_tup {x1} (h : PA X es (tA X.K cA W xs)) : PE X (.Tuple es x1 pos) (tE X.K cA W (eTup xs)) := PEi (pe_tup h) fun σ H Q ⟨B, ι, e, S, re, p⟩ =>
  .of re (poA_bind re p fun ι1 vs H1 ds S1 f1 r1 rd1 p1 => by
    split at p1
    · rename_i hz
      exact ⟨by rw [sizeL, ← rd1.len]; exact hz, fun n np => p1 ι1 _ _ (Fr.same (same_new np)) (r1.rs.same (same_new np)) (new_tup r1.rs np rd1)⟩
    · exact p1.elim)
theorem q_lst (h : PA X es (tA X.K cA W xs)) : PE X (.List es pos) (tE X.K cA W (eLst xs)) := PEi (pe_lst h) fun σ H Q ⟨B, ι, e, S, re, p⟩ =>
  .of re (poA_bind re p fun ι1 vs H1 ds S1 f1 r1 rd1 p1 => by
    split at p1
    · rename_i hz
      exact ⟨by rw [sizeL, ← rd1.len]; exact hz, fun n np => p1 ι1 _ _ (Fr.same (same_new np)) (r1.rs.same (same_new np)) (new_lst r1.rs np rd1)⟩
    · exact p1.elim)
/-- a new cell -/
theorem Fr.push {p : Addr} {o : HO} (h : p ∉ ι) (np : H p = none) : Fr ι (ι ++ [p]) H (upd H p o) := ⟨⟨[p], rfl, fun a m => by rw [List.mem_singleton.mp m]; exact ⟨h, np⟩⟩, fun a o' e _ => by rw [upd_ne (ne_of_none e np)]; exact e⟩
theorem RS.push (rs : RS K cA B ι S H) {p : Addr} (np : H p = none) {o : HO} {c : Cell} (h : RO K cA B (ι ++ [p]) (upd H p o) p c) : RS K cA B (ι ++ [p]) (S ++ [c]) (upd H p o) := by
  have hp := not_in rs np
  refine ⟨by simp [rs.len], ?_, fun a hb => ?_, fun i c' e => ?_⟩
  · rw [List.nodup_append]
    exact ⟨rs.nd, by simp, fun x hx y hy => by rw [List.mem_singleton.mp hy]; exact fun z => hp (z ▸ hx)⟩
  · obtain ⟨h1, o', h2⟩ := rs.nB a hb
    refine ⟨fun m => ?_, o', by rw [upd_ne (ne_of_none h2 np)]; exact h2⟩
    rcases List.mem_append.mp m with m | m
    · exact h1 m
    · rw [List.mem_singleton.mp m, np] at h2; cases h2
  · by_cases hi : i < S.length
    · rw [List.getElem?_append_left hi] at e
      obtain ⟨a, h1, h2⟩ := rs.at_ i c' e
      obtain ⟨o', ho⟩ := h2.has
      exact ⟨a, by rw [List.getElem?_append_left (by rw [rs.len]; exact hi)]; exact h1, h2.fr (Fr.push hp np) (by rw [upd_ne (ne_of_none ho np)])⟩
    · rw [List.getElem?_append_right (by omega)] at e
      have : i - S.length = 0 := by
        by_cases z : i - S.length = 0
        · exact z
        · rw [List.getElem?_eq_none (by simp; omega)] at e; cases e
      rw [this] at e
      cases e
      refine ⟨p, ?_, h⟩
      rw [List.getElem?_append_right (by rw [rs.len]; omega), rs.len, this]; rfl
theorem q_new (h : PA X es (tA X.K cA W xs)) : PE X (.List es pos) (tE X.K cA W (eNew xs)) := PEi (pe_lst h) fun σ H Q ⟨B, ι, e, S, re, p⟩ =>
  .of re (poA_bind re p fun ι1 vs H1 ds S1 f1 r1 rd1 p1 => by
    split at p1
    · rename_i hz
      refine ⟨by rw [sizeL, ← rd1.len]; exact hz, fun n np => ?_⟩
      have fr : Fr ι1 (ι1 ++ [n]) H1 (upd H1 n (.lst vs)) := Fr.push (not_in r1.rs np) np
      refine p1 _ _ _ fr (r1.rs.push np ⟨vs, upd_same, RDs.fr fr _ _ rd1⟩) (.mk_obj ?_)
      rw [← r1.rs.len, List.getElem?_append_right (Nat.le_refl _)]
      simp
    · exact p1.elim)

/-! ### builtins -/
structure CB (X : Cx) (f : Value) (g : Sto → List D → Option D) : Prop where
  ex : ∃ r : List V → Hp → VK → Prop, CallR X f r ∧ ∀ (cA : Str → Addr) (B : Addr → Prop) (ι : List Addr) (S : Sto) (H : Hp) (xs : List V) (ds : List D) (d : D) (Q : VK), RS X.K cA B ι S H → RDs X.K B ι H ds xs → g S ds = some d →
    (∀ v H', Same H H' → RD X.K B ι H' d v → Q v H') → r xs H Q
variable {g : Sto → List D → Option D} {x : Str} {p : Pos} {id T : String}
theorem useB {r : List V → Hp → VK → Prop} (hr : ∀ (cA : Str → Addr) (B : Addr → Prop) (ι : List Addr) (S : Sto) (H : Hp) (xs : List V) (ds : List D) (d : D) (Q : VK), RS X.K cA B ι S H → RDs X.K B ι H ds xs → g S ds = some d →
    (∀ v H', Same H H' → RD X.K B ι H' d v → Q v H') → r xs H Q) : ∀ σ H Q, tE X.K cA W (eB g xs) σ H Q → tCB r (tA X.K cA W xs) σ H Q := fun σ H Q ⟨B, ι, e, S, re, p⟩ =>
  .of re (poA_bind re p fun ι1 vs H1 ds S1 f1 r1 rd1 p1 => by
    obtain ⟨d, hd, q⟩ := po_opt p1 r1.rs
    exact hr cA B ι1 S1 H1 vs ds d Q r1.rs rd1 hd q)
theorem q_callB (hc : CB X (.builtin id) g) (hg : Gl X x) (hm : X.mg x = none) (hv : bootBuiltins x = some (.builtin id)) (ha : PA X (a :: es) (tA X.K cA W xs)) (hn : x ≠ "__name__" := by decide) (hdb : (x == ("__debug__" : Str)) = false := by decide)
    (he : starEach (a :: es) X.env = (false, eval a X.env) :: starEach es X.env := by rfl) (hpl : (backTo pos (starEach es X.env)).any (·.1) = false := by rfl) : PE X (.Call (.Name x p) (a :: es) [] pos) (tE X.K cA W (eB g xs)) :=
  let ⟨_, h1, h2⟩ := hc.ex; PEi (pe_callB h1 hg hm hv ha hn hdb he hpl) (useB h2)
theorem q_callT (hc : CB X (.type T) g) (hg : Gl X x) (hm : X.mg x = none) (hv : bootBuiltins x = some (.type T)) (ha : PA X (a :: es) (tA X.K cA W xs)) (hn : x ≠ "__name__" := by decide) (hdb : (x == ("__debug__" : Str)) = false := by decide)
    (he : starEach (a :: es) X.env = (false, eval a X.env) :: starEach es X.env := by rfl) (hpl : (backTo pos (starEach es X.env)).any (·.1) = false := by rfl) : PE X (.Call (.Name x p) (a :: es) [] pos) (tE X.K cA W (eB g xs)) :=
  let ⟨_, h1, h2⟩ := hc.ex; PEi (pe_callTy h1 hg hm hv ha hn hdb he hpl) (useB h2)
theorem CB.mk' {f : Value} {r : List V → Hp → VK → Prop} (h : CallR X f r) (k : ∀ (cA : Str → Addr) (B : Addr → Prop) (ι : List Addr) (S : Sto) (H : Hp) (xs : List V) (ds : List D) (d : D) (Q : VK), RS X.K cA B ι S H → RDs X.K B ι H ds xs → g S ds = some d →
    (∀ v H', Same H H' → RD X.K B ι H' d v → Q v H') → r xs H Q) : CB X f g := ⟨r, h, k⟩
theorem CallR.or {f : Value} {r r' : List V → Hp → VK → Prop} (h : CallR X f r) (h' : CallR X f r') : CallR X f (fun xs H Q => r xs H Q ∨ r' xs H Q) := by
  intro pins s σ H xs us Q I rx q
  rcases q with q | q
  · exact h pins s σ H xs us Q I rx q
  · exact h' pins s σ H xs us Q I rx q
theorem RDs.one {d : D} {xs : List V} (r : RDs K B ι H [d] xs) : ∃ v, xs = [v] ∧ RD K B ι H d v := by
  obtain ⟨v, t, rfl, h1, h2⟩ := r.cons_inv
  rw [h2.nil_inv]; exact ⟨v, rfl, h1⟩
theorem RDs.two {d d' : D} {xs : List V} (r : RDs K B ι H [d, d'] xs) : ∃ v v', xs = [v, v'] ∧ RD K B ι H d v ∧ RD K B ι H d' v' := by
  obtain ⟨v, t, rfl, h1, h2⟩ := r.cons_inv
  obtain ⟨v', rfl, h3⟩ := h2.one
  exact ⟨v, v', rfl, h1, h3⟩
def gLen (S : Sto) : List D → Option D
  | [d] => match view S d with
    | .str z => if z.length ≤ 16777216 then some (.int z.length) else none
    | .tup ds => some (.int ds.length)
    | .lst ds => some (.int ds.length)
    | .dct ks _ => some (.int ks.length)
    | _ => none
  | _ => none
theorem c_len : CB X (.builtin "len") gLen := .mk' (CallR.or call_len_str (CallR.or call_len_seq call_lenD)) fun cA B ι S H xs ds d Q rs rd hg q => by
  unfold gLen at hg
  split at hg
  · obtain ⟨v, rfl, rd1⟩ := rd.one
    split at hg
    · rename_i z e
      split at hg
      · rename_i hz
        cases hg
        exact .inl ⟨z, by rw [v_str rd1 e], by rw [sizeL]; exact hz, q _ H same_refl RD.mk_int⟩
      · cases hg
    · rename_i z e
      cases hg
      obtain ⟨p, us, rfl, h3, r⟩ := v_tup rd1 e
      exact .inr (.inl ⟨p, us, rfl, .inr h3.sq, by rw [← r.len]; exact q _ H same_refl RD.mk_int⟩)
    · rename_i z e
      cases hg
      obtain ⟨p, us, rfl, h3, r⟩ := v_lst rs rd1 e
      exact .inr (.inl ⟨p, us, rfl, .inl h3, by rw [← r.len]; exact q _ H same_refl RD.mk_int⟩)
    · rename_i ks z e
      cases hg
      obtain ⟨p, us, rfl, h3, h4, r⟩ := v_dct rs rd1 e
      refine .inr (.inr ⟨p, _, rfl, h3, ?_⟩)
      rw [List.length_zip, ← h4, Nat.min_self]
      exact q _ H same_refl RD.mk_int
    · cases hg
  · cases hg
def gAbs (S : Sto) : List D → Option D
  | [.int i] => some (.int (if i < 0 then -i else i))
  | _ => none
theorem c_abs : CB X (.builtin "abs") gAbs := .mk' call_abs fun cA B ι S H xs ds d Q rs rd hg q => by
  unfold gAbs at hg
  split at hg
  · cases hg
    obtain ⟨v, rfl, rd1⟩ := rd.one
    exact ⟨_, by rw [rd1.int], q _ H same_refl RD.mk_int⟩
  · cases hg
def gList (S : Sto) : List D → Option D
  | [d] => match view S d with
    | .tup ds => some (.lst ds)
    | .lst ds => some (.lst ds)
    | _ => none
  | _ => none
theorem c_list : CB X (.type "list") gList := .mk' call_list_of fun cA B ι S H xs ds d Q rs rd hg q => by
  unfold gList at hg
  split at hg
  · obtain ⟨v, rfl, rd1⟩ := rd.one
    split at hg
    · rename_i z e
      cases hg
      obtain ⟨p, us, rfl, h3, r⟩ := v_tup rd1 e
      exact ⟨p, us, rfl, .inr h3.sq, fun n np => q _ _ (same_new np) (new_lst rs np r)⟩
    · rename_i z e
      cases hg
      obtain ⟨p, us, rfl, h3, r⟩ := v_lst rs rd1 e
      exact ⟨p, us, rfl, .inl h3, fun n np => q _ _ (same_new np) (new_lst rs np r)⟩
    · cases hg
  · cases hg
def gTuple (S : Sto) : List D → Option D
  | [d] => match view S d with
    | .tup ds => some (.tup ds)
    | .lst ds => some (.tup ds)
    | _ => none
  | _ => none
theorem c_tuple : CB X (.type "tuple") gTuple := .mk' call_tuple_of fun cA B ι S H xs ds d Q rs rd hg q => by
  unfold gTuple at hg
  split at hg
  · obtain ⟨v, rfl, rd1⟩ := rd.one
    split at hg
    · rename_i z e
      cases hg
      obtain ⟨p, us, rfl, h3, r⟩ := v_tup rd1 e
      exact ⟨p, us, rfl, .inr ⟨h3.sq, q _ _ same_refl (.mk_tup h3 r)⟩⟩
    · rename_i z e
      cases hg
      obtain ⟨p, us, rfl, h3, r⟩ := v_lst rs rd1 e
      exact ⟨p, us, rfl, .inl ⟨h3, fun n np => q _ _ (same_new np) (new_tup rs np r)⟩⟩
    · cases hg
  · cases hg
/-- the truths, the numbers in a list -/
def bls : List D → Option (List Bool)
  | [] => some []
  | .bl b :: ds => (bls ds).map (b :: ·)
  | _ => none
def intL : List D → Option (List Int)
  | [] => some []
  | .int b :: ds => (intL ds).map (b :: ·)
  | _ => none
theorem bls_V : ∀ {ds : List D} {xs : List V} {bs : List Bool}, RDs K B ι H ds xs → bls ds = some bs → xs = bs.map V.bl
  | [], xs, bs, r, h => by cases h; rw [r.nil_inv]; rfl
  | .bl k :: ds, xs, bs, r, h => by
    obtain ⟨v, t, rfl, h1, h2⟩ := r.cons_inv
    rw [bls] at h
    cases q : bls ds with
    | none => rw [q] at h; cases h
    | some l =>
      rw [q] at h; cases h
      rw [bls_V h2 q, h1.bl]; rfl
  | .non :: ds, xs, bs, r, h => by cases h
  | .int _ :: ds, xs, bs, r, h => by cases h
  | .str _ :: ds, xs, bs, r, h => by cases h
  | .tup _ :: ds, xs, bs, r, h => by cases h
  | .lst _ :: ds, xs, bs, r, h => by cases h
  | .dct _ _ :: ds, xs, bs, r, h => by cases h
  | .obj _ :: ds, xs, bs, r, h => by cases h
  | .scr _ :: ds, xs, bs, r, h => by cases h
theorem ints_V : ∀ {ds : List D} {xs : List V} {bs : List Int}, RDs K B ι H ds xs → intL ds = some bs → xs = bs.map V.int
  | [], xs, bs, r, h => by cases h; rw [r.nil_inv]; rfl
  | .int k :: ds, xs, bs, r, h => by
    obtain ⟨v, t, rfl, h1, h2⟩ := r.cons_inv
    rw [intL] at h
    cases q : intL ds with
    | none => rw [q] at h; cases h
    | some l =>
      rw [q] at h; cases h
      rw [ints_V h2 q, h1.int]; rfl
  | .non :: ds, xs, bs, r, h => by cases h
  | .bl _ :: ds, xs, bs, r, h => by cases h
  | .str _ :: ds, xs, bs, r, h => by cases h
  | .tup _ :: ds, xs, bs, r, h => by cases h
  | .lst _ :: ds, xs, bs, r, h => by cases h
  | .dct _ _ :: ds, xs, bs, r, h => by cases h
  | .obj _ :: ds, xs, bs, r, h => by cases h
  | .scr _ :: ds, xs, bs, r, h => by cases h
def gLb (f : List Bool → Bool) (S : Sto) : List D → Option D
  | [d] => match view S d with
    | .lst ds => (bls ds).map fun bs => .bl (f bs)
    | _ => none
  | _ => none
theorem c_lb {id : String} {f : List Bool → Bool} (h : CallR X (.builtin id) (fun vs H Q => ∃ (a : Addr) (bs : List Bool), vs = [V.ref a] ∧ SqL X.K H a (bs.map V.bl) ∧ Q (.bl (f bs)) H)) : CB X (.builtin id) (gLb f) := .mk' h fun cA B ι S H xs ds d Q rs rd hg q => by
  unfold gLb at hg
  split at hg
  · obtain ⟨v, rfl, rd1⟩ := rd.one
    split at hg
    · rename_i z e
      cases q2 : bls z with
      | none => rw [q2] at hg; cases hg
      | some bs =>
        rw [q2] at hg; cases hg
        obtain ⟨p, us, rfl, h3, r⟩ := v_lst rs rd1 e
        have := bls_V r q2
        subst this
        exact ⟨p, bs, rfl, h3, q _ H same_refl RD.mk_bl⟩
    · cases hg
  · cases hg
def allB (bs : List Bool) : Bool := bs.all _root_.id
def anyB (bs : List Bool) : Bool := bs.any _root_.id
theorem c_all (hc : X.calm = true) : CB X (.builtin "all") (gLb allB) := c_lb (cr_all hc)
theorem c_any (hc : X.calm = true) : CB X (.builtin "any") (gLb anyB) := c_lb (cr_any hc)
def gSum (S : Sto) : List D → Option D
  | [d] => match view S d with
    | .lst ds => (intL ds).map fun ns => .int ns.sum
    | _ => none
  | _ => none
theorem c_sum (hc : X.calm = true) : CB X (.builtin "sum") gSum := .mk' (cr_sum hc) fun cA B ι S H xs ds d Q rs rd hg q => by
  unfold gSum at hg
  split at hg
  · obtain ⟨v, rfl, rd1⟩ := rd.one
    split at hg
    · rename_i z e
      cases q2 : intL z with
      | none => rw [q2] at hg; cases hg
      | some bs =>
        rw [q2] at hg; cases hg
        obtain ⟨p, us, rfl, h3, r⟩ := v_lst rs rd1 e
        have := ints_V r q2
        subst this
        exact ⟨p, bs, rfl, h3, q _ H same_refl RD.mk_int⟩
    · cases hg
  · cases hg
/-- isinstance of a built-in class -/
def tyN (S : Sto) (d : D) : Option String := match view S d with
  | .non => some "NoneType" | .bl _ => some "bool" | .int _ => some "int" | .str _ => some "str" | .tup _ => some "tuple" | .lst _ => some "list" | .dct _ _ => some "dict" | _ => none
def isi (n t : String) : Bool := t == n || (t == "bool" && n == "int")
def gIsi (n : String) (S : Sto) (d : D) : Option D := (tyN S d).map fun t => .bl (isi n t)
theorem kit_isi {n t : String} (hn : n ∈ ["str", "tuple", "list", "dict", "int", "bool"]) (ht : t ∈ ["NoneType", "bool", "int", "str", "tuple", "list", "dict"]) : PySem.W.kitOne K (.type t) (.type n) = some (isi n t) := by
  apply kit_ty
  simp only [List.mem_cons, List.not_mem_nil, or_false] at hn ht
  rcases hn with rfl | rfl | rfl | rfl | rfl | rfl <;> rcases ht with rfl | rfl | rfl | rfl | rfl | rfl | rfl <;> decide +kernel
theorem tyN_ok (rs : RS K cA B ι S H) {d : D} {v : V} {t : String} (rd : RD K B ι H d v) (h : tyN S d = some t) : TyX K H v (.type t) ∧ t ∈ ["NoneType", "bool", "int", "str", "tuple", "list", "dict"] := by
  unfold tyN at h
  split at h
  · rename_i e; cases h; rw [v_non rd e]; exact ⟨.base .non, by simp⟩
  · rename_i e; cases h; rw [v_bl rd e]; exact ⟨.base (.bl _), by simp⟩
  · rename_i e; cases h; rw [v_int rd e]; exact ⟨.base (.int _), by simp⟩
  · rename_i e; cases h; rw [v_str rd e]; exact ⟨.base (.str _), by simp⟩
  · rename_i e; cases h
    obtain ⟨p, us, rfl, h3, r⟩ := v_tup rd e
    refine ⟨?_, by simp⟩
    rcases h3 with ⟨_, _, h | ⟨o, h⟩⟩ | ⟨o, its, n, h, hc, _⟩
    · exact .base (.tup h)
    · exact .fTuple h
    · exact .kTuple h hc
  · rename_i e; cases h
    obtain ⟨p, us, rfl, h3, r⟩ := v_lst rs rd e
    refine ⟨?_, by simp⟩
    rcases h3 with (h | ⟨o, h⟩) | ⟨o, its, n, h, hc, _⟩
    · exact .base (.lst h)
    · exact .base (.frz h)
    · exact .kList h hc
  · rename_i e; cases h
    obtain ⟨p, us, rfl, h3, r⟩ := v_dct rs rd e
    exact ⟨.base (.dK h3), by simp⟩
  · cases h
theorem q_isi {n : String} (hg : Gl X "isinstance") (hm : X.mg "isinstance" = none) (ha : PE X a (tE X.K cA W ma)) (ht : PE X b (tC (.ty n))) (hn : n ∈ ["str", "tuple", "list", "dict", "int", "bool"] := by simp)
    (hs : starEach [a, b] X.env = [(false, eval a X.env), (false, eval b X.env)] := by rfl) (hs2 : starEach [b] X.env = [(false, eval b X.env)] := by rfl) (hpl : (backTo pos (starEach [b] X.env)).any (·.1) = false := by rfl) :
    PE X (.Call (.Name "isinstance" p) [a, b] [] pos) (tE X.K cA W (e1 (gIsi n) ma)) :=
  PEi (pe_callB call_isi hg hm (by decide +kernel) (pa_cons ha (pa_cons ht pa_nil hs2) (by rw [hs, hs2])) (by decide) (by decide) (by rw [hs, hs2]) hpl) fun σ H Q ⟨B, ι, e, S, re, p⟩ =>
    .of re (po_bind re p fun ι1 v1 H1 d1 S1 f1 r1 rd1 p1 => by
      obtain ⟨d, hd, q⟩ := po_opt p1 r1.rs
      unfold gIsi at hd
      cases e : tyN S1 d1 with
      | none => rw [e] at hd; cases hd
      | some t =>
        rw [e] at hd; cases hd
        obtain ⟨h1, h2⟩ := tyN_ok r1.rs rd1 e
        exact ⟨v1, .ty n, .type t, .type n, _, rfl, .ty n, h1, kit_isi hn h2, q _ H1 same_refl RD.mk_bl⟩)
theorem q_ty {x : Str} {n : String} {pos : Pos} (hg : Gl X x) (hm : X.mg x = none) (hv : bootBuiltins x = some (.type n)) (hn : x ≠ "__name__" := by decide) (hd : (x == ("__debug__" : Str)) = false := by decide) : PE X (.Name x pos) (tC (.ty n)) := pe_bltn (v := .ty n) hg hm hv rfl hn hd

/-! ### slices -/
def oNo : En → Sto → Option (Option Int × Sto) := fun _ S => some (none, S)
/-- the part of a slice: no store is changed by it -/
def gSl (lo hi : Option Int) (S : Sto) (d : D) : Option D := match view S d with
  | .str z => if z.length ≤ 16777216 then some (.str (cutS z lo hi)) else none
  | .tup ds => some (.tup ((ds.drop (HT.sIx ds.length 0 lo)).take (HT.sIx ds.length ds.length hi - HT.sIx ds.length 0 lo)))
  | .lst ds => some (.lst ((ds.drop (HT.sIx ds.length 0 lo)).take (HT.sIx ds.length ds.length hi - HT.sIx ds.length 0 lo)))
  | _ => none
def part : D → Option Int
  | .int i => some i
  | _ => none
def isPart : D → Bool
  | .int _ => true
  | _ => false
def eSl2 (m l h : ME) : ME := fun e S => (m e S).bind fun x S1 => (l e S1).bind fun i S2 => if isPart i = true then (h e S2).bind fun j S3 => if isPart j = true then opt (gSl (part i) (part j) S3 x) S3 else .bad else .bad
def eSlL (m l : ME) : ME := fun e S => (m e S).bind fun x S1 => (l e S1).bind fun i S2 => if isPart i = true then opt (gSl (part i) none S2 x) S2 else .bad
def eSlH (m h : ME) : ME := fun e S => (m e S).bind fun x S1 => (h e S1).bind fun j S2 => if isPart j = true then opt (gSl none (part j) S2 x) S2 else .bad
def rSl3 (K : PySem.W.Frag) : V → Option Int → Option Int → Hp → VK → Prop := fun x lo hi H Q => rSlS x lo hi H Q ∨ rSlA K x lo hi H Q ∨ rSlL K x lo hi H Q
theorem sl_3 : SlR X (rSl3 X.K) := SlR.or sl_str (SlR.or sl_tupA sl_list)
theorem gSl_ok (rs : RS K cA B ι S H) {d r : D} {v : V} {lo hi : Option Int} {Q : VK} (rd : RD K B ι H d v) (h : gSl lo hi S d = some r) (q : ∀ v H', Same H H' → RD K B ι H' r v → Q v H') : rSl3 K v lo hi H Q := by
  unfold gSl at h
  split at h
  · rename_i z e
    split at h
    · rename_i hz
      cases h
      exact .inl ⟨z, v_str rd e, by rw [sizeL]; exact hz, q _ H same_refl RD.mk_str⟩
    · cases h
  · rename_i z e
    cases h
    obtain ⟨p, us, rfl, h3, r⟩ := v_tup rd e
    have hl := r.len
    have hcut : ∀ H', Same H H' → RDs K B ι H' ((z.drop (HT.sIx z.length 0 lo)).take (HT.sIx z.length z.length hi - HT.sIx z.length 0 lo)) (cutV us lo hi) := fun H' sm => by
      unfold cutV
      rw [← hl]
      exact ((RDs.fr (Fr.same sm) _ _ r).drop _).take _
    refine .inr (.inl ⟨p, us, rfl, h3.sq, fun ⟨w1, w2⟩ => ?_, fun _ n np => ?_⟩)
    · have : cutV us lo hi = us := by unfold cutV; rw [w1, w2]; simp
      have hc := hcut H same_refl
      rw [this] at hc
      exact q _ H same_refl (.mk_tup h3 hc)
    · refine q _ _ (same_new np) (.mk_tup (.inl ⟨not_in rs np, not_B rs np, .inl upd_same⟩) (hcut _ (same_new np)))
  · rename_i z e
    cases h
    obtain ⟨p, us, rfl, h3, r⟩ := v_lst rs rd e
    have hl := r.len
    refine .inr (.inr ⟨p, us, rfl, h3, fun n np => q _ _ (same_new np) (.mk_lst ⟨not_in rs np, not_B rs np, upd_same⟩ ?_)⟩)
    unfold cutV
    rw [← hl]
    exact ((RDs.fr (Fr.same (same_new np)) _ _ r).drop _).take _
  · cases h
theorem part_int {d : D} {v : V} (rd : RD K B ι H d v) (h : isPart d = true) : ∃ i, v = .int i ∧ part d = some i := by
  cases d with
  | int i => exact ⟨i, rd.int, rfl⟩
  | _ => cases h
variable {lo hi : Expr} {ml mh : ME} {p2 : Pos}
theorem q_sl2 (ha : PE X a (tE X.K cA W ma)) (hl : PE X lo (tE X.K cA W ml)) (hh : PE X hi (tE X.K cA W mh)) : PE X (.Subscript a (.Slice (some lo) (some hi) none p2) pos) (tE X.K cA W (eSl2 ma ml mh)) :=
  PEi (pe_slice sl_3 ha (po_some hl) (po_some hh)) fun σ H Q ⟨B, ι, e, S, re, p⟩ =>
    .of re (po_bind re p fun ι1 v1 H1 d1 S1 f1 r1 rd1 p1 => .of r1 (po_bind r1 p1 fun ι2 v2 H2 d2 S2 f2 r2 rd2 p2 => by
      split at p2
      · rename_i hi
        obtain ⟨i, rfl, e2⟩ := part_int rd2 hi
        refine ⟨i, rfl, .of r2 (po_bind r2 p2 fun ι3 v3 H3 d3 S3 f3 r3 rd3 p3 => ?_)⟩
        split at p3
        · rename_i hj
          obtain ⟨j, rfl, e3⟩ := part_int rd3 hj
          obtain ⟨d, hd, q⟩ := po_opt p3 r3.rs
          rw [e2, e3] at hd
          exact ⟨j, rfl, gSl_ok r3.rs (RD.fr f3 _ _ (RD.fr f2 _ _ rd1)) hd q⟩
        · exact p3.elim
      · exact p2.elim))
theorem q_slL (ha : PE X a (tE X.K cA W ma)) (hl : PE X lo (tE X.K cA W ml)) : PE X (.Subscript a (.Slice (some lo) none none p2) pos) (tE X.K cA W (eSlL ma ml)) :=
  PEi (pe_slice sl_3 ha (po_some hl) po_none) fun σ H Q ⟨B, ι, e, S, re, p⟩ =>
    .of re (po_bind re p fun ι1 v1 H1 d1 S1 f1 r1 rd1 p1 => .of r1 (po_bind r1 p1 fun ι2 v2 H2 d2 S2 f2 r2 rd2 p2 => by
      split at p2
      · rename_i hi
        obtain ⟨i, rfl, e2⟩ := part_int rd2 hi
        obtain ⟨d, hd, q⟩ := po_opt p2 r2.rs
        rw [e2] at hd
        exact ⟨i, rfl, gSl_ok r2.rs (RD.fr f2 _ _ rd1) hd q⟩
      · exact p2.elim))
theorem q_slH (ha : PE X a (tE X.K cA W ma)) (hl : PE X hi (tE X.K cA W mh)) : PE X (.Subscript a (.Slice none (some hi) none p2) pos) (tE X.K cA W (eSlH ma mh)) :=
  PEi (pe_slice sl_3 ha po_none (po_some hl)) fun σ H Q ⟨B, ι, e, S, re, p⟩ =>
    .of re (po_bind re p fun ι1 v1 H1 d1 S1 f1 r1 rd1 p1 => .of r1 (po_bind r1 p1 fun ι2 v2 H2 d2 S2 f2 r2 rd2 p2 => by
      split at p2
      · rename_i hi
        obtain ⟨i, rfl, e2⟩ := part_int rd2 hi
        obtain ⟨d, hd, q⟩ := po_opt p2 r2.rs
        rw [e2] at hd
        exact ⟨i, rfl, gSl_ok r2.rs (RD.fr f2 _ _ rd1) hd q⟩
      · exact p2.elim))
end
end DL

/-! The data layer: statements, loops. -/
namespace DL
open PySem PySem.Spec PyProof.Rows L2
section
variable {X : Cx} {K : PySem.W.Frag} {cA : Str → Addr} {W : WX} {B : Addr → Prop} {ι : List Addr} {S : Sto} {H : Hp} {σ : L2.St} {e : En}
variable {a b c : Expr} {es : List Expr} {ma mb mc : ME} {xs : MA} {pos : Pos} {st : Stmt} {sts : List Stmt} {sa sb : MS}

/-! ### small statements -/
theorem z_nil : PSs X [] (tS X.K cA W sPass) := PSsi pss_nil fun D' σ H ⟨B, ι, e, S, re, p⟩ => p ι σ H Fr.refl re
theorem z_cons (h1 : PS X st (tS X.K cA W sa)) (h2 : PSs X sts (tS X.K cA W sb)) : PSs X (st :: sts) (tS X.K cA W (sSeq sa sb)) := PSsi (pss_cons h1 h2) fun D' σ H ⟨B, ι, e, S, re, p⟩ => by
  refine .of re ?_
  unfold sSeq RS'.bind at p
  cases q : sa e S with
  | nx e1 S1 => rw [q] at p; exact fun ι1 σ1 H1 f1 r1 => .of r1 (PoS.on f1 p)
  | bad => rw [q] at p; exact p
  | brk e1 S1 => rw [q] at p; exact p
  | cont e1 S1 => rw [q] at p; exact p
  | ret d S1 => rw [q] at p; exact p
  | exc c e1 S1 => rw [q] at p; exact p
theorem z_one (h1 : PS X st (tS X.K cA W sa)) : PSs X [st] (tS X.K cA W sa) := pss_one h1
theorem s_pass : PS X (.Pass pos) (tS X.K cA W sPass) := PSi ps_pass fun D' σ H ⟨B, ι, e, S, re, p⟩ => p ι σ H Fr.refl re
theorem s_doc {x j pos pos'} : PS X (.Expr (.Constant (.str x) j pos) pos') (tS X.K cA W sPass) := PSi ps_doc fun D' σ H ⟨B, ι, e, S, re, p⟩ => p ι σ H Fr.refl re
theorem s_brk : PS X (.Break pos) (tS X.K cA W sBrk) := PSi ps_break fun D' σ H ⟨B, ι, e, S, re, p⟩ => p ι σ H Fr.refl re
theorem s_cont : PS X (.Continue pos) (tS X.K cA W sCont) := PSi ps_continue fun D' σ H ⟨B, ι, e, S, re, p⟩ => p ι σ H Fr.refl re
theorem s_ex (h : PE X a (tE X.K cA W ma)) (hs : swapsWith a none pos.line X.env = pure false := by rfl) : PS X (.Expr a pos) (tS X.K cA W (sEx ma)) := PSi (ps_expr h hs) fun D' σ H ⟨B, ι, e, S, re, p⟩ =>
  .of re (po_bindS re p fun ι1 v1 H1 d1 S1 f1 r1 rd1 p1 => p1 ι1 σ H1 Fr.refl r1)
theorem s_ret (h : PE X a (tE X.K cA W ma)) : PS X (.Return (some a) pos) (tS X.K cA W (sRet ma)) := PSi (ps_ret h) fun D' σ H ⟨B, ι, e, S, re, p⟩ =>
  .of re (po_bindS re p fun ι1 v1 H1 d1 S1 f1 r1 rd1 p1 => p1 ι1 v1 H1 Fr.refl r1.rs rd1)
theorem s_retN : PS X (.Return none pos) (tS X.K cA W sRetN) := PSi ps_retN fun D' σ H ⟨B, ι, e, S, re, p⟩ => p ι .non H Fr.refl re.rs RD.mk_non
theorem Rel.set (r : Rel K cA B ι e S σ H) {i : Nat} {d : D} {v : V} (rd : RD K B ι H d v) : Rel K cA B ι (e.set i (some d)) S (σ.set i (some v)) H := ⟨r.rs, by rw [List.length_set, List.length_set]; exact r.len, fun j d' h => by
  by_cases hj : i = j
  · subst hj
    by_cases hi : i < e.length
    · rw [List.getElem?_set_self hi] at h
      cases h
      exact ⟨v, List.getElem?_set_self (by rw [← r.len]; exact hi), rd⟩
    · rw [List.getElem?_eq_none (by rw [List.length_set]; omega)] at h; cases h
  · rw [List.getElem?_set_ne hj] at h
    obtain ⟨u, h1, h2⟩ := r.ev j d' h
    exact ⟨u, by rw [List.getElem?_set_ne hj]; exact h1, h2⟩⟩
theorem s_set {i : Nat} (h : PS X st (tAsg (tE X.K cA W ma) (gName i))) : PS X st (tS X.K cA W (sSet i ma)) := PSi h fun D' σ H ⟨B, ι, e, S, re, p⟩ =>
  .of re (po_bindS re p fun ι1 v1 H1 d1 S1 f1 r1 rd1 p1 => p1 ι1 _ H1 Fr.refl (r1.set rd1))
theorem s_if {xc : MB} {sas sbs : List Stmt} (hc : PT X c (tT X.K cA W xc)) (ha : PSs X sas (tS X.K cA W sa)) (hb : PSs X sbs (tS X.K cA W sb)) : PS X (.If c sas sbs pos) (tS X.K cA W (sIf xc sa sb)) := PSi (ps_if hc ha hb) fun D' σ H ⟨B, ι, e, S, re, p⟩ =>
  .of re (poB_bindS re p fun ι1 H1 k S1 f1 r1 p1 => by
    cases k with
    | true => exact .of r1 p1
    | false => exact .of r1 p1)

/-! ### targets -/
abbrev MTg := D → En → Option En
def TgD (K : PySem.W.Frag) (cA : Str → Addr) (g : TG) (m : MTg) (sl : List Nat) : Prop := ∀ (B : Addr → Prop) (ι : List Addr) (e e' : En) (S : Sto) (σ : L2.St) (H : Hp) (d : D) (v : V) (Q : L2.St → Hp → Prop), Rel K cA B ι e S σ H → RD K B ι H d v → m d e = some e' → (∀ σ', Rel K cA B ι e' S σ' H → (∀ vs, (∀ i ∈ sl, i ∈ vs) → wipe σ' vs = wipe σ vs) → Q σ' H) → g v σ H Q
abbrev MTgs := List D → En → Option En
def TgsD (K : PySem.W.Frag) (cA : Str → Addr) (g : TGs) (m : MTgs) (sl : List Nat) : Prop := ∀ (B : Addr → Prop) (ι : List Addr) (e e' : En) (S : Sto) (σ : L2.St) (H : Hp) (ds : List D) (vs : List V) (Q : L2.St → Hp → Prop), Rel K cA B ι e S σ H → RDs K B ι H ds vs → m ds e = some e' → (∀ σ', Rel K cA B ι e' S σ' H → (∀ vs, (∀ i ∈ sl, i ∈ vs) → wipe σ' vs = wipe σ vs) → Q σ' H) → g vs σ H Q
def mNm (i : Nat) : MTg := fun d e => some (e.set i (some d))
def mNil : MTgs := fun ds e => match ds with | [] => some e | _ => none
def mCons (t : MTg) (u : MTgs) : MTgs := fun ds e => match ds with | d :: r => (t d e).bind fun e' => u r e' | [] => none
def mTup (n : Nat) (u : MTgs) : MTg := fun d e => match d with | .tup ds => if ds.length = n then u ds e else none | .lst ds => if ds.length = n then u ds e else none | _ => none
theorem wipe_set {σ : L2.St} {i : Nat} {x : Option V} : ∀ {vs : List Nat}, i ∈ vs → wipe (σ.set i x) vs = wipe σ vs
  | [], h => by cases h
  | v :: vs, h => by
    unfold wipe
    by_cases hi : i ∈ vs
    · rw [wipe_set hi]
    · have hv : i = v := by
        rcases List.mem_cons.mp h with h | h
        · exact h
        · exact absurd h hi
      subst hv
      have : ∀ (us : List Nat) (τ : L2.St), i ∉ us → wipe (τ.set i x) us = (wipe τ us).set i x := by
        intro us
        induction us with
        | nil => intro τ _; rfl
        | cons u us ih =>
          intro τ hu
          unfold wipe
          rw [ih τ (fun z => hu (List.mem_cons_of_mem _ z)), List.set_comm _ _ (fun z => hu (by first | (rw [z]; exact List.mem_cons_self) | (rw [← z]; exact List.mem_cons_self)))]
      rw [this vs σ hi, List.set_set]
theorem wipe_wipe (σ : L2.St) (vs : List Nat) : wipe (wipe σ vs) vs = wipe σ vs := by
  have : ∀ us : List Nat, (∀ i ∈ us, i ∈ vs) → ∀ τ : L2.St, wipe τ vs = wipe σ vs → wipe (wipe τ us) vs = wipe σ vs := by
    intro us
    induction us with
    | nil => intro _ τ h; exact h
    | cons u us ih =>
      intro hu τ h
      show wipe ((wipe τ us).set u none) vs = _
      rw [wipe_set (hu u List.mem_cons_self)]
      exact ih (fun i hi => hu i (List.mem_cons_of_mem _ hi)) τ h
  exact this vs (fun _ h => h) σ rfl
theorem g_nm {i : Nat} : TgD K cA (gName i) (mNm i) [i] := fun B ι e e' S σ H d v Q r rd h q => by
  cases h; exact q _ (r.set rd) fun vs hv => wipe_set (hv i (by simp))
theorem g_nil : TgsD K cA gNil mNil [] := fun B ι e e' S σ H ds vs Q r rd h q => by
  unfold mNil at h
  split at h
  · cases h; exact ⟨rd.nil_inv, q _ r fun _ _ => rfl⟩
  · cases h
theorem g_cons {g : TG} {gs : TGs} {m : MTg} {ms : MTgs} {sl sl' : List Nat} (h1 : TgD K cA g m sl) (h2 : TgsD K cA gs ms sl') : TgsD K cA (gCons g gs) (mCons m ms) (sl ++ sl') := fun B ι e e' S σ H ds vs Q r rd h q => by
  unfold mCons at h
  split at h
  · rename_i d t
    obtain ⟨v, u, rfl, h3, h4⟩ := rd.cons_inv
    cases e1 : m d e with
    | none => rw [e1] at h; cases h
    | some ee =>
      rw [e1] at h
      exact ⟨v, u, rfl, h1 B ι e ee S σ H d v _ r h3 e1 fun σ' r' w1 => h2 B ι ee e' S σ' H t u Q r' h4 h fun σ2 r2 w2 => q σ2 r2 fun vs hv => (w2 vs fun i hi => hv i (List.mem_append_right _ hi)).trans (w1 vs fun i hi => hv i (List.mem_append_left _ hi))⟩
  · cases h
/-- a row, a list -/
def gTL (K : PySem.W.Frag) (n : Nat) (t : TGs) : TG := fun v σ H Q => gTup K n t v σ H Q ∨ gLst K n t v σ H Q
theorem pgTL {tes : List Expr} {k : Nat} {t : TGs} {n : Nat} {tpos : Pos} (hc : X.calm = true) (h : PGs X tes t) (hn : (assignEach tes X.env).length = n := by rfl) (hst : (assignEach tes X.env).findIdx? (·.1) = none := by rfl) : PG X (.Tuple tes k tpos) (gTL X.K n t) :=
  ⟨fun pins s σ H v u Q I r hw => by
    rcases hw with hw | hw
    · exact (pg_tup hc h hn hst).run pins s σ H v u Q I r hw
    · exact (pg_lst hc h hn hst).run pins s σ H v u Q I r hw⟩
theorem g_tup {n : Nat} {gs : TGs} {ms : MTgs} {sl : List Nat} (h2 : TgsD K cA gs ms sl) : TgD K cA (gTL K n gs) (mTup n ms) sl := fun B ι e e' S σ H d v Q r rd h q => by
  unfold mTup at h
  split at h
  · rename_i ds
    split at h
    · rename_i hl
      obtain ⟨a, xs, rfl, h3, h4⟩ := rd.tup
      exact .inl ⟨a, xs, rfl, h3.sq, by rw [← h4.len]; exact hl, h2 B ι e e' S σ H ds xs Q r h4 h q⟩
    · cases h
  · rename_i ds
    split at h
    · rename_i hl
      obtain ⟨a, xs, rfl, h3, h4⟩ := rd.lst
      exact .inr ⟨a, xs, rfl, h3.sq, by rw [← h4.len]; exact hl, h2 B ι e e' S σ H ds xs Q r h4 h q⟩
    · cases h
  · cases h
def sAsg (t : MTg) (m : ME) : MS := fun e S => (m e S).bindS e fun d S1 => match t d e with | some e' => .nx e' S1 | none => .bad
theorem s_asg {g : TG} {m : MTg} {sl : List Nat} (ht : TgD X.K cA g m sl) (h : PS X st (tAsg (tE X.K cA W ma) g)) : PS X st (tS X.K cA W (sAsg m ma)) := PSi h fun D' σ H ⟨B, ι, e, S, re, p⟩ =>
  .of re (po_bindS re p fun ι1 v1 H1 d1 S1 f1 r1 rd1 p1 => by
    cases q : m d1 e with
    | none => rw [q] at p1; exact p1.elim
    | some e' =>
      rw [q] at p1
      exact ht B ι1 e e' S1 σ H1 d1 v1 _ r1 rd1 q fun σ' r' _ => p1 ι1 σ' H1 Fr.refl r')

/-! ### what is walked -/
structure Wk (K : PySem.W.Frag) (B : Addr → Prop) (J : It) (ds : List D) (ok : List Addr → Hp → Prop) : Prop where
  go : ∀ i ι H, i < ds.length → ok ι H → J.go i H
  stop : ∀ ι H, ok ι H → J.stop ds.length H
  yld : ∀ i ι H x H' d, ds[i]? = some d → ok ι H → J.yld i H x H' → Same H H' ∧ RD K B ι H' d x
theorem wk_list {a : Addr} {ds : List D} : Wk K B (Itl K a) ds (fun ι H => ∃ xs, SqL K H a xs ∧ RDs K B ι H ds xs) where
  go := fun i ι H hi ⟨xs, h, r⟩ => ⟨xs, xs[i]'(by rw [← r.len]; exact hi), h, by simp⟩
  stop := fun ι H ⟨xs, h, r⟩ => ⟨xs, h, by rw [r.len]; exact Nat.le_refl _⟩
  yld := fun i ι H x H' d hd ⟨xs, h, r⟩ ⟨e, y⟩ => by
    subst e
    obtain ⟨v, h1, h2⟩ := r.get hd
    have := y xs h
    rw [h1] at this; cases this
    exact ⟨same_refl, h2⟩
theorem wk_tup {a : Addr} {ds : List D} : Wk K B (Itt K a) ds (fun ι H => ∃ xs, FT K B ι H a xs ∧ RDs K B ι H ds xs) where
  go := fun i ι H hi ⟨xs, h, r⟩ => ⟨xs, xs[i]'(by rw [← r.len]; exact hi), h.sq, by simp⟩
  stop := fun ι H ⟨xs, h, r⟩ => ⟨xs, h.sq, by rw [r.len]; exact Nat.le_refl _⟩
  yld := fun i ι H x H' d hd ⟨xs, h, r⟩ ⟨e, y⟩ => by
    subst e
    obtain ⟨v, h1, h2⟩ := r.get hd
    have := y xs h.sq
    rw [h1] at this; cases this
    exact ⟨same_refl, h2⟩
/-- the signs of a text -/
def signs (x : Str) : List D := x.cps.toList.map fun c => .str ⟨#[c]⟩
theorem wk_str {x : Str} : Wk K B (Its x) (signs x) (fun _ _ => True) where
  go := fun i ι H hi _ => by
    show i < x.cps.size
    simpa [signs] using hi
  stop := fun ι H _ => by
    show x.cps.size ≤ _
    simp [signs]
  yld := fun i ι H y H' d hd _ ⟨e, c, h1, h2⟩ => by
    subst e h2
    unfold signs at hd
    rw [List.getElem?_map, Array.getElem?_toList, h1] at hd
    cases hd
    exact ⟨same_refl, RD.mk_str⟩
/-- lo, lo + 1, .. -/
def rng (lo : Int) (n : Nat) : List D := (List.range n).map fun (k : Nat) => D.int (lo + (k : Int))
theorem wk_rng {lo : Int} {n : Nat} : Wk K B (Itr lo n) (rng lo n) (fun _ _ => True) where
  go := fun i ι H hi _ => by
    show i < n
    simpa [rng] using hi
  stop := fun ι H _ => by
    show n ≤ _
    simp [rng]
  yld := fun i ι H y H' d hd _ ⟨e, h1⟩ => by
    subst e h1
    unfold rng at hd
    rw [List.getElem?_map] at hd
    cases q : (List.range n)[i]? with
    | none => rw [q] at hd; cases hd
    | some k =>
      rw [q] at hd; cases hd
      have : k = i := by
        have := (List.getElem?_eq_some_iff.mp q).2
        simpa using this.symm
      subst this
      exact ⟨same_refl, RD.mk_int⟩

/-! ### for -/
open Classical in
/-- the turns of a loop; C: what is walked stands as it stood -/
noncomputable def forD (C : Sto → Prop) (tg : MTg) (body : MS) : List D → En → Sto → RS'
  | [], e, S => if C S then .nx e S else .bad
  | d :: ds, e, S => if C S then match tg d e with
      | none => .bad
      | some e' => match body e' S with
        | .nx e2 S2 => forD C tg body ds e2 S2
        | .cont e2 S2 => forD C tg body ds e2 S2
        | .brk e2 S2 => .nx e2 S2
        | r => r
    else .bad
/-- the loop by its walk -/
theorem for_wk {J : It} {ds : List D} {ok : List Addr → Hp → Prop} {C : Sto → Prop} {g : TG} {m : MTg} {body : MS} {D' : Ends} {sl : List Nat} (wk : Wk K B J ds ok) (ht : TgD K cA g m sl)
    (hok : ∀ ι' e S' σ H', Fr ι ι' H H' → Rel K cA B ι' e S' σ H' → C S' → ok ι' H') (r : Rel K cA B ι e S σ H) (p : PoS K cA W B (forD C m body ds e S) ι H D') :
    ∃ Wd : Nat → Nat → L2.St → Hp → Prop, (∃ n, Wd 0 n σ H) ∧ ∀ i n σ H, Wd i n σ H →
      (J.stop i H ∧ D'.nx σ H) ∨ (J.go i H ∧ ∃ N : L2.St → Hp → Prop, (∀ σ' H', N σ' H' → ∃ n', n' < n ∧ Wd (i + 1) n' σ' H') ∧ ∀ x H', J.yld i H x H' → g x σ H' fun σ2 H2 => tS K cA W body { D' with nx := N, ct := N, bk := D'.nx } σ2 H2) := by
  refine ⟨fun i n σ1 H1 => n + i = ds.length ∧ ∃ ι1 e1 S1, Fr ι ι1 H H1 ∧ Rel K cA B ι1 e1 S1 σ1 H1 ∧ PoS K cA W B (forD C m body (ds.drop i) e1 S1) ι1 H1 D', ⟨ds.length, by simp, ι, e, S, Fr.refl, r, by simpa using p⟩, ?_⟩
  rintro i n σ1 H1 ⟨hn, ι1, e1, S1, f1, r1, p1⟩
  by_cases hi : i < ds.length
  · rw [List.drop_eq_getElem_cons hi] at p1
    unfold forD at p1
    by_cases hC : C S1
    · rw [if_pos hC] at p1
      have hok1 := hok ι1 e1 S1 σ1 H1 f1 r1 hC
      cases q : m ds[i] e1 with
      | none => rw [q] at p1; exact p1.elim
      | some e2 =>
        rw [q] at p1
        refine .inr ⟨wk.go i ι1 H1 hi hok1, fun σ3 H3 => ∃ ι3 e3 S3, Fr ι ι3 H H3 ∧ Rel K cA B ι3 e3 S3 σ3 H3 ∧ PoS K cA W B (forD C m body (ds.drop (i + 1)) e3 S3) ι3 H3 D', fun σ3 H3 ⟨ι3, e3, S3, f3, r3, p3⟩ => ⟨n - 1, by omega, by omega, ι3, e3, S3, f3, r3, p3⟩, fun x H2 y => ?_⟩
        obtain ⟨sm, rd⟩ := wk.yld i ι1 H1 x H2 ds[i] (List.getElem?_eq_getElem hi) hok1 y
        have r1' : Rel K cA B ι1 e1 S1 σ1 H2 := r1.fr (Fr.same sm) (r1.rs.same sm)
        refine ht B ι1 e1 e2 S1 σ1 H2 ds[i] x _ r1' rd q fun σ2 r2 _ => .of r2 ?_
        have f2 : Fr ι ι1 H H2 := f1.trans (Fr.same sm)
        simp only at p1
        cases q2 : body e2 S1 with
        | bad => rw [q2] at p1; exact p1
        | nx e3 S3 => rw [q2] at p1; exact fun ι3 σ3 H3 f3 r3 => ⟨ι3, e3, S3, f2.trans f3, r3, PoS.on ((Fr.same sm).trans f3) p1⟩
        | cont e3 S3 => rw [q2] at p1; exact fun ι3 σ3 H3 f3 r3 => ⟨ι3, e3, S3, f2.trans f3, r3, PoS.on ((Fr.same sm).trans f3) p1⟩
        | brk e3 S3 => rw [q2] at p1; exact fun ι3 σ3 H3 f3 r3 => p1 ι3 σ3 H3 ((Fr.same sm).trans f3) r3
        | ret d S3 => rw [q2] at p1; exact fun ι3 v H3 f3 r3 d3 => p1 ι3 v H3 ((Fr.same sm).trans f3) r3 d3
        | exc c e3 S3 => rw [q2] at p1; exact fun ι3 σ3 H3 f3 r3 => p1 ι3 σ3 H3 ((Fr.same sm).trans f3) r3
    · rw [if_neg hC] at p1; exact p1.elim
  · rw [List.drop_eq_nil_of_le (by omega)] at p1
    unfold forD at p1
    by_cases hC : C S1
    · rw [if_pos hC] at p1
      have e : i = ds.length := by omega
      subst e
      exact .inl ⟨wk.stop ι1 H1 (hok ι1 e1 S1 σ1 H1 f1 r1 hC), p1 ι1 σ1 H1 Fr.refl r1⟩
    · rw [if_neg hC] at p1; exact p1.elim
def iAny (K : PySem.W.Frag) (t : TE) : TI := fun σ H R => iList K t σ H R ∨ iTup K t σ H R ∨ iStr t σ H R
theorem pi_any {tg : Expr} {t : TE} (h : PE X a t) : PI X tg a (iAny X.K t) := ⟨fun pins s σ H R I q => by
  rcases q with q | q | q
  · exact (pi_list h).run pins s σ H R I q
  · exact (pi_tup h).run pins s σ H R I q
  · exact (pi_str h).run pins s σ H R I q⟩
/-- the items of what is walked -/
def items (S : Sto) (d : D) : Option (List D) := match view S d with
  | .lst ds => some ds
  | .tup ds => some ds
  | .str x => some (signs x)
  | _ => none
noncomputable def sFor (it : ME) (tg : MTg) (body : MS) : MS := fun e S => (it e S).bindS e fun d S1 => match items S1 d with
  | some ds => forD (fun S' => view S' d = view S1 d) tg body ds e S1
  | none => .bad
/-- what stands at v is walked by its items -/
theorem wk_any {S1 : Sto} {d : D} {v : V} {ds : List D} (rs : RS K cA B ι S1 H) (rd : RD K B ι H d v) (h : items S1 d = some ds) : (∃ a, v = .ref a ∧ (∃ xs, SqL K H a xs) ∧ ∃ ok, Wk K B (Itl K a) ds ok ∧ ∀ ι' S' H', Fr ι ι' H H' → RS K cA B ι' S' H' → view S' d = view S1 d → ok ι' H') ∨
    (∃ a, v = .ref a ∧ (∃ xs, SqT K H a xs) ∧ ∃ ok, Wk K B (Itt K a) ds ok ∧ ∀ ι' S' H', Fr ι ι' H H' → RS K cA B ι' S' H' → view S' d = view S1 d → ok ι' H') ∨ (∃ x, v = .str x ∧ ∃ ok, Wk K B (Its x) ds ok ∧ ∀ ι' S' H', Fr ι ι' H H' → RS K cA B ι' S' H' → view S' d = view S1 d → ok ι' H') := by
  unfold items at h
  split at h
  · rename_i es q
    cases h
    obtain ⟨a, xs, rfl, h1, h2⟩ := v_lst rs rd q
    refine .inl ⟨a, rfl, ⟨xs, h1⟩, _, wk_list, fun ι' S' H' f rs' hv => ?_⟩
    obtain ⟨a', ys, e, h3, h4⟩ := v_lst rs' (RD.fr f _ _ rd) (hv.trans q)
    cases e
    exact ⟨ys, h3, h4⟩
  · rename_i es q
    cases h
    obtain ⟨a, xs, rfl, h1, h2⟩ := v_tup rd q
    refine .inr (.inl ⟨a, rfl, ⟨xs, h1.sq⟩, _, wk_tup, fun ι' S' H' f rs' hv => ?_⟩)
    exact ⟨xs, h1.fr f, RDs.fr f _ _ h2⟩
  · rename_i x q
    cases h
    exact .inr (.inr ⟨x, v_str rd q, _, wk_str, fun _ _ _ _ _ _ => True.intro⟩)
  · cases h
theorem s_for {g : TG} {m : MTg} {sl : List Nat} {tg it : Expr} {body : List Stmt} {mi : ME} (hp : PassesOwn (model X.prog X.w) X.A X.env X.xe) (hc : X.calm = true) (hi : PE X it (tE X.K cA W mi)) (hg : PG X tg g) (ht : TgD X.K cA g m sl) (hb : PSs X body (tS X.K cA W sb))
    (hs : ∀ x, foldedSetIterable it X.env x = pure x := by intro _; rfl) : PS X (.For tg it body [] pos) (tS X.K cA W (sFor mi m sb)) := PSi (ps_for hp hc (pi_any hi) hg hb hs) fun D' σ H ⟨B, ι, e, S, re, p⟩ => by
  unfold sFor RE.bindS at p
  show iAny X.K _ σ H _
  cases q : mi e S with
  | bad => rw [q] at p; exact p.elim
  | exc c S1 => rw [q] at p; exact .inl (.of re (by rw [q]; exact fun ι' H' fr rs => p ι' σ H' fr (re.fr fr rs)))
  | ok d S1 =>
    rw [q] at p
    simp only at p
    cases q2 : items S1 d with
    | none => rw [q2] at p; exact p.elim
    | some ds =>
      rw [q2] at p
      simp only at p
      -- which kind: told by the value's data alone
      have go : ∀ {ι1 H1 v}, Fr ι ι1 H H1 → RS X.K cA B ι1 S1 H1 → RD X.K B ι1 H1 d v → _ := fun {ι1 H1 v} f1 rs1 rd1 => wk_any rs1 rd1 q2
      have fin : ∀ {ι1 H1 J ok}, Fr ι ι1 H H1 → RS X.K cA B ι1 S1 H1 → Wk X.K B J ds ok → (∀ ι' S' H', Fr ι1 ι' H1 H' → RS X.K cA B ι' S' H' → view S' d = view S1 d → ok ι' H') → _ := fun {ι1 H1 J ok} f1 rs1 wk hok =>
        for_wk (C := fun S' => view S' d = view S1 d) (g := g) (m := m) (body := sb) (D' := D') wk ht (fun ι' e S' σ H' f r c => hok ι' S' H' f r.rs c) (re.fr f1 rs1) (PoS.on f1 p)
      unfold items at q2
      split at q2
      · refine .inl (.of re ?_)
        rw [q]
        intro ι1 v H1 f1 rs1 rd1
        rename_i es hv
        obtain ⟨a, xs, rfl, h1, h2⟩ := v_lst rs1 rd1 hv
        cases q2
        refine ⟨a, rfl, ⟨xs, h1⟩, fin f1 rs1 wk_list fun ι' S' H' f rs' hv' => ?_⟩
        obtain ⟨a', ys, e', h3, h4⟩ := v_lst rs' (RD.fr f _ _ rd1) (hv'.trans hv)
        cases e'
        exact ⟨ys, h3, h4⟩
      · refine .inr (.inl (.of re ?_))
        rw [q]
        intro ι1 v H1 f1 rs1 rd1
        rename_i es hv
        obtain ⟨a, xs, rfl, h1, h2⟩ := v_tup rd1 hv
        cases q2
        exact ⟨a, rfl, ⟨xs, h1.sq⟩, fin f1 rs1 wk_tup fun ι' S' H' f rs' hv' => ⟨xs, h1.fr f, RDs.fr f _ _ h2⟩⟩
      · refine .inr (.inr (.of re ?_))
        rw [q]
        intro ι1 v H1 f1 rs1 rd1
        rename_i x hv
        cases q2
        exact ⟨x, v_str rd1 hv, fin f1 rs1 wk_str fun _ _ _ _ _ _ => True.intro⟩
      · cases q2
/-- for .. in range(n) -/
noncomputable def sForR (it : ME) (tg : MTg) (body : MS) : MS := fun e S => (it e S).bindS e fun d S1 => match d with
  | .int n => if -(2 ^ 62) ≤ n ∧ n < 2 ^ 62 then forD (fun _ => True) tg body (rng 0 n.toNat) e S1 else .bad
  | _ => .bad
theorem s_forR {g : TG} {m : MTg} {sl : List Nat} {tg : Expr} {body : List Stmt} {mi : ME} {p : Pos} {pos' : Pos} (hp : PassesOwn (model X.prog X.w) X.A X.env X.xe) (hc : X.calm = true) (hgl : Gl X "range") (hm : X.mg "range" = none) (hi : PA X [a] (tA X.K cA W (aC mi aN))) (hg : PG X tg g) (ht : TgD X.K cA g m sl) (hb : PSs X body (tS X.K cA W sb))
    (hs : ∀ x, foldedSetIterable (.Call (.Name "range" p) [a] [] pos') X.env x = pure x := by intro _; rfl) (hst : starEach [a] X.env = [(false, eval a X.env)] := by rfl) : PS X (.For tg (.Call (.Name "range" p) [a] [] pos') body [] pos) (tS X.K cA W (sForR mi m sb)) :=
  PSi (ps_for hp hc (pi_range1 hgl hm hi hst) hg hb hs) fun D' σ H ⟨B, ι, e, S, re, p⟩ => by
  unfold sForR RE.bindS at p
  refine (show tA X.K cA W (aC mi aN) σ H _ from .of re ?_)
  unfold aC RE.bindA
  cases q : mi e S with
  | bad => rw [q] at p; exact p.elim
  | exc c S1 => rw [q] at p; exact fun ι' H' fr rs => p ι' σ H' fr (re.fr fr rs)
  | ok d S1 =>
    rw [q] at p
    simp only at p
    intro ι1 vs H1 f1 rs1 rd1
    split at p
    · rename_i n
      split at p
      · rename_i hn
        obtain ⟨v, rfl, rd2⟩ := rd1.one
        refine ⟨n, by rw [rd2.int], hn.1, hn.2, ?_⟩
        exact for_wk (C := fun _ => True) (g := g) (m := m) (body := sb) (D' := D') wk_rng ht (fun _ _ _ _ _ _ _ _ => True.intro) (re.fr f1 rs1) (PoS.on f1 p)
      · exact p.elim
    · exact p.elim
/-! ### while -/
/-- the turns, n of them at most -/
def whD (c : MB) (body : MS) : Nat → En → Sto → RS'
  | 0, _, _ => .bad
  | n + 1, e, S => (c e S).bindS e fun k S1 => if k = true then match body e S1 with
      | .nx e2 S2 => whD c body n e2 S2
      | .cont e2 S2 => whD c body n e2 S2
      | .brk e2 S2 => .nx e2 S2
      | r => r
    else .nx e S1
theorem whD_mono {c : MB} {body : MS} : ∀ {n : Nat} {e : En} {S : Sto}, whD c body n e S ≠ .bad → whD c body (n + 1) e S = whD c body n e S
  | 0, e, S, h => absurd rfl h
  | n + 1, e, S, h => by
    rw [whD] at h
    rw [whD, whD]
    unfold RB.bindS at h ⊢
    cases q : c e S with
    | bad => rfl
    | exc _ _ => rfl
    | ok k S1 =>
      rw [q] at h
      simp only at h ⊢
      by_cases hk : k = true
      · rw [if_pos hk] at h ⊢
        rw [if_pos hk]
        cases q2 : body e S1 with
        | nx e2 S2 => rw [q2] at h; exact whD_mono h
        | cont e2 S2 => rw [q2] at h; exact whD_mono h
        | _ => rfl
      · rw [if_neg hk, if_neg hk]
theorem whD_le {c : MB} {body : MS} {n m : Nat} {e : En} {S : Sto} (h : whD c body n e S ≠ .bad) (hm : n ≤ m) : whD c body m e S = whD c body n e S := by
  induction hm with
  | refl => rfl
  | step _ ih => rw [whD_mono (by rw [ih]; exact h), ih]
open Classical in
noncomputable def sWh (c : MB) (body : MS) : MS := fun e S => if h : ∃ n, whD c body n e S ≠ .bad then whD c body h.choose e S else .bad
theorem sWh_of {c : MB} {body : MS} {n : Nat} {e : En} {S : Sto} {r : RS'} (h : whD c body n e S = r) (hr : r ≠ .bad) : sWh c body e S = r := by
  have h' : whD c body n e S ≠ .bad := by rw [h]; exact hr
  have hx : ∃ n, whD c body n e S ≠ .bad := ⟨n, h'⟩
  unfold sWh
  rw [dif_pos hx]
  rcases Nat.le_total n hx.choose with z | z
  · rw [whD_le h' z, h]
  · rw [← whD_le hx.choose_spec z, h]
theorem s_wh {xc : MB} {body : List Stmt} (hp : PassesOwn (model X.prog X.w) X.A X.env X.xe) (hc : PT X c (tT X.K cA W xc)) (hb : PSs X body (tS X.K cA W sb)) : PS X (.While c body [] pos) (tS X.K cA W (sWh xc sb)) := PSi (ps_while hp hc hb) fun D' σ H ⟨B, ι, e, S, re, p⟩ => by
  unfold sWh at p
  split at p
  · rename_i hx
    generalize hx.choose = n at p
    refine ⟨fun n σ1 H1 => ∃ ι1 e1 S1, Fr ι ι1 H H1 ∧ Rel X.K cA B ι1 e1 S1 σ1 H1 ∧ PoS X.K cA W B (whD xc sb n e1 S1) ι1 H1 D', ⟨n, ι, e, S, Fr.refl, re, p⟩, ?_⟩
    rintro n σ1 H1 ⟨ι1, e1, S1, f1, r1, p1⟩
    cases n with
    | zero => exact p1.elim
    | succ n =>
      rw [whD] at p1
      refine .of r1 (poB_bindS r1 p1 fun ι2 H2 k S2 f2 r2 p2 => ?_)
      cases k with
      | false => exact p2 ι2 σ1 H2 Fr.refl r2
      | true =>
        refine ⟨fun σ3 H3 => ∃ ι3 e3 S3, Fr ι ι3 H H3 ∧ Rel X.K cA B ι3 e3 S3 σ3 H3 ∧ PoS X.K cA W B (whD xc sb n e3 S3) ι3 H3 D', fun σ3 H3 ⟨ι3, e3, S3, f3, r3, p3⟩ => ⟨n, Nat.lt_succ_self _, ι3, e3, S3, f3, r3, p3⟩, .of r2 ?_⟩
        rw [if_pos rfl] at p2
        cases q2 : sb e1 S2 with
        | bad => rw [q2] at p2; exact p2
        | nx e3 S3 => rw [q2] at p2; exact fun ι3 σ3 H3 f3 r3 => ⟨ι3, e3, S3, (f1.trans f2).trans f3, r3, PoS.on f3 p2⟩
        | cont e3 S3 => rw [q2] at p2; exact fun ι3 σ3 H3 f3 r3 => ⟨ι3, e3, S3, (f1.trans f2).trans f3, r3, PoS.on f3 p2⟩
        | brk e3 S3 => rw [q2] at p2; exact p2
        | ret d S3 => rw [q2] at p2; exact p2
        | exc c e3 S3 => rw [q2] at p2; exact p2
  · exact p.elim
end
end DL

/-! The data layer: comprehensions, functions, calls. -/
namespace DL
open PySem PySem.Spec PyProof.Rows L2
section
variable {X : Cx} {K : PySem.W.Frag} {cA : Str → Addr} {W : WX} {B B' : Addr → Prop} {ι ι' : List Addr} {S : Sto} {H H' : Hp} {σ : L2.St} {e : En}
variable {a b c : Expr} {es : List Expr} {ma mb mc : ME} {xs : MA} {pos : Pos} {st : Stmt} {sts : List Stmt} {sa sb : MS}

/-! ### another region of changing things, another heap -/
mutual
theorem RD.mv (hT : ∀ b xs, FT K B ι H b xs → FT K B' ι H' b xs) (hL : ∀ b xs, FL B ι H b xs → FL B' ι H' b xs) (hS : ∀ b xs, (b ∉ ι ∧ ¬ B b ∧ Rd H b (.lst xs)) → b ∉ ι ∧ ¬ B' b ∧ Rd H' b (.lst xs)) (hD : ∀ b kvs, b ∉ ι → ¬ B b → H b = some (.dK kvs) → ¬ B' b ∧ H' b = some (.dK kvs)) :
    ∀ (d : D) (v : V), RD K B ι H d v → RD K B' ι H' d v
  | .non, v, h => by rw [RD] at h ⊢; exact h
  | .bl b, v, h => by rw [RD] at h ⊢; exact h
  | .int i, v, h => by rw [RD] at h ⊢; exact h
  | .str x, v, h => by rw [RD] at h ⊢; exact h
  | .tup ds, v, h => by
    rw [RD] at h ⊢
    obtain ⟨a, xs, e, h1, h2⟩ := h
    exact ⟨a, xs, e, hT a xs h1, RDs.mv hT hL hS hD ds xs h2⟩
  | .lst ds, v, h => by
    rw [RD] at h ⊢
    obtain ⟨a, xs, e, h1, h2⟩ := h
    exact ⟨a, xs, e, hL a xs h1, RDs.mv hT hL hS hD ds xs h2⟩
  | .dct ks ds, v, h => by
    rw [RD] at h ⊢
    obtain ⟨a, xs, e, h1, h2, h3, h4, h5⟩ := h
    obtain ⟨h6, h7⟩ := hD a _ h1 h2 h3
    exact ⟨a, xs, e, h1, h6, h7, h4, RDs.mv hT hL hS hD ds xs h5⟩
  | .obj n, v, h => by
    rw [RD] at h ⊢
    exact h
  | .scr ds, v, h => by
    rw [RD] at h ⊢
    obtain ⟨a, xs, e, h1, h2⟩ := h
    exact ⟨a, xs, e, h1.imp (hS a xs) _root_.id, RDs.mv hT hL hS hD ds xs h2⟩
theorem RDs.mv (hT : ∀ b xs, FT K B ι H b xs → FT K B' ι H' b xs) (hL : ∀ b xs, FL B ι H b xs → FL B' ι H' b xs) (hS : ∀ b xs, (b ∉ ι ∧ ¬ B b ∧ Rd H b (.lst xs)) → b ∉ ι ∧ ¬ B' b ∧ Rd H' b (.lst xs)) (hD : ∀ b kvs, b ∉ ι → ¬ B b → H b = some (.dK kvs) → ¬ B' b ∧ H' b = some (.dK kvs)) :
    ∀ (ds : List D) (vs : List V), RDs K B ι H ds vs → RDs K B' ι H' ds vs
  | [], vs, h => by rw [RDs] at h ⊢; exact h
  | d :: ds, vs, h => by
    rw [RDs] at h ⊢
    obtain ⟨v, r, e, h1, h2⟩ := h
    exact ⟨v, r, e, RD.mv hT hL hS hD d v h1, RDs.mv hT hL hS hD ds r h2⟩
end
theorem FT.mB {b : Addr} {ys : List V} (h : ∀ a, B' a → B a) : FT K B ι H b ys → FT K B' ι H b ys
  | .inl ⟨h1, h2, h3⟩ => .inl ⟨h1, fun z => h2 (h _ z), h3⟩
  | .inr x => .inr x
theorem RD.mB {d : D} {v : V} (h : ∀ a, B' a → B a) (r : RD K B ι H d v) : RD K B' ι H d v :=
  RD.mv (fun _ _ x => x.mB h) (fun _ _ ⟨h1, h2, h3⟩ => ⟨h1, fun z => h2 (h _ z), h3⟩) (fun _ _ ⟨h1, h2, h3⟩ => ⟨h1, fun z => h2 (h _ z), h3⟩) (fun b kvs _ h2 h3 => ⟨fun z => h2 (h _ z), h3⟩) d v r
theorem RDs.mB {d : List D} {v : List V} (h : ∀ a, B' a → B a) (r : RDs K B ι H d v) : RDs K B' ι H d v :=
  RDs.mv (fun _ _ x => x.mB h) (fun _ _ ⟨h1, h2, h3⟩ => ⟨h1, fun z => h2 (h _ z), h3⟩) (fun _ _ ⟨h1, h2, h3⟩ => ⟨h1, fun z => h2 (h _ z), h3⟩) (fun b kvs _ h2 h3 => ⟨fun z => h2 (h _ z), h3⟩) d v r
/-- a free place p set apart -/
def plus (B : Addr → Prop) (p : Addr) : Addr → Prop := fun a => B a ∨ a = p
theorem Rd.has {u : HO} {b : Addr} (h : Rd H b u) : ∃ o, H b = some o := by
  rcases h with h | ⟨o, h⟩ <;> exact ⟨_, h⟩
theorem RD.add {p : Addr} (np : H p = none) {d : D} {v : V} (r : RD K B ι H d v) : RD K (plus B p) ι H d v :=
  RD.mv (fun b xs x => by
      rcases x with ⟨h1, h2, h3⟩ | x
      · refine .inl ⟨h1, fun z => ?_, h3⟩
        rcases z with z | z
        · exact h2 z
        · obtain ⟨o, q⟩ := Rd.has h3; rw [z, np] at q; cases q
      · exact .inr x)
    (fun b xs ⟨h1, h2, h3⟩ => by
      refine ⟨h1, fun z => ?_, h3⟩
      rcases z with z | z
      · exact h2 z
      · rw [z, np] at h3; cases h3)
    (fun b xs ⟨h1, h2, h3⟩ => by
      refine ⟨h1, fun z => ?_, h3⟩
      rcases z with z | z
      · exact h2 z
      · obtain ⟨o, q⟩ := Rd.has h3; rw [z, np] at q; cases q)
    (fun b kvs h1 h2 h3 => by
      refine ⟨fun z => ?_, h3⟩
      rcases z with z | z
      · exact h2 z
      · rw [z, np] at h3; cases h3) d v r
theorem RDs.add {p : Addr} (np : H p = none) {d : List D} {v : List V} (r : RDs K B ι H d v) : RDs K (plus B p) ι H d v := by
  induction d generalizing v with
  | nil => rw [r.nil_inv]; exact .nil
  | cons d ds ih =>
    obtain ⟨u, t, rfl, h1, h2⟩ := r.cons_inv
    exact .cons (h1.add np) (ih h2)
/-- what is set apart may change -/
theorem RD.app {p : Addr} {o : HO} {d : D} {v : V} (r : RD K (plus B p) ι H d v) : RD K (plus B p) ι (upd H p o) d v :=
  RD.mv (fun b xs x => by
      rcases x with ⟨h1, h2, h3⟩ | x
      · have hb : b ≠ p := fun z => h2 (.inr z)
        exact .inl ⟨h1, h2, by unfold Rd; rw [upd_ne hb]; exact h3⟩
      · exact .inr x)
    (fun b xs ⟨h1, h2, h3⟩ => by
      have hb : b ≠ p := fun z => h2 (.inr z)
      exact ⟨h1, h2, by rw [upd_ne hb]; exact h3⟩)
    (fun b xs ⟨h1, h2, h3⟩ => by
      have hb : b ≠ p := fun z => h2 (.inr z)
      exact ⟨h1, h2, by unfold Rd; rw [upd_ne hb]; exact h3⟩)
    (fun b kvs h1 h2 h3 => by
      have hb : b ≠ p := fun z => h2 (.inr z)
      exact ⟨h2, by rw [upd_ne hb]; exact h3⟩) d v r
theorem RDs.app {p : Addr} {o : HO} {d : List D} {v : List V} (r : RDs K (plus B p) ι H d v) : RDs K (plus B p) ι (upd H p o) d v := by
  induction d generalizing v with
  | nil => rw [r.nil_inv]; exact .nil
  | cons d ds ih =>
    obtain ⟨u, t, rfl, h1, h2⟩ := r.cons_inv
    exact .cons h1.app (ih h2)
theorem RO.mv {a : Addr} {c : Cell} (f : ∀ d v, RDs K B ι H d v → RDs K B' ι H' d v) (ha : H' a = H a) (h : RO K cA B ι H a c) : RO K cA B' ι H' a c := by
  cases c with
  | lst ds => obtain ⟨xs, h1, h2⟩ := h; exact ⟨xs, by rw [ha]; exact h1, f _ _ h2⟩
  | dct ks ds => obtain ⟨xs, h1, h2, h3⟩ := h; exact ⟨xs, by rw [ha]; exact h1, h2, f _ _ h3⟩
  | ins C fs => obtain ⟨dx, xs, h1, h2, h3⟩ := h; exact ⟨dx, xs, by rw [ha]; exact h1, h2, f _ _ h3⟩
theorem RS.apart (r : RS K cA B ι S H) {p : Addr} {o : HO} (np : H p = none) : RS K cA (plus B p) ι S (upd H p o) := by
  have hp := not_in r np
  refine ⟨r.len, r.nd, fun a z => ?_, fun i c h => ?_⟩
  · rcases z with z | z
    · obtain ⟨h1, o', h2⟩ := r.nB a z
      exact ⟨h1, o', by rw [upd_ne (ne_of_none h2 np)]; exact h2⟩
    · subst z; exact ⟨hp, o, upd_same⟩
  · obtain ⟨a, h1, h2⟩ := r.at_ i c h
    obtain ⟨o', ho⟩ := h2.has
    exact ⟨a, h1, h2.mv (fun d v x => (x.add np).app) (by rw [upd_ne (ne_of_none ho np)])⟩
theorem RS.app {p : Addr} {o : HO} (r : RS K cA (plus B p) ι S H) : RS K cA (plus B p) ι S (upd H p o) := by
  obtain ⟨hp, o1, ho1⟩ := r.nB p (.inr rfl)
  refine ⟨r.len, r.nd, fun a z => ?_, fun i c h => ?_⟩
  · obtain ⟨h1, o', h2⟩ := r.nB a z
    refine ⟨h1, ?_⟩
    by_cases e : a = p
    · subst e; exact ⟨o, upd_same⟩
    · exact ⟨o', by rw [upd_ne e]; exact h2⟩
  · obtain ⟨a, h1, h2⟩ := r.at_ i c h
    have : a ≠ p := fun e => hp (e ▸ List.mem_of_getElem? h1)
    exact ⟨a, h1, h2.mv (fun d v x => x.app) (by rw [upd_ne this])⟩
theorem RS.less {p : Addr} (r : RS K cA (plus B p) ι S H) : RS K cA B ι S H :=
  ⟨r.len, r.nd, fun a z => r.nB a (.inl z), fun i c h => let ⟨a, h1, h2⟩ := r.at_ i c h; ⟨a, h1, h2.mv (fun d v x => x.mB fun _ z => .inl z) rfl⟩⟩

/-! ### comprehensions -/
def wipeE (e : En) : List Nat → En
  | [] => e
  | v :: vs => (wipeE e vs).set v none
theorem Rel.none (r : Rel K cA B ι e S σ H) (i : Nat) : Rel K cA B ι (e.set i .none) S (σ.set i .none) H := ⟨r.rs, by rw [List.length_set, List.length_set]; exact r.len, fun j d' h => by
  by_cases hj : i = j
  · subst hj
    by_cases hi : i < e.length
    · rw [List.getElem?_set_self hi] at h; cases h
    · rw [List.getElem?_eq_none (by rw [List.length_set]; omega)] at h; cases h
  · rw [List.getElem?_set_ne hj] at h
    obtain ⟨u, h1, h2⟩ := r.ev j d' h
    exact ⟨u, by rw [List.getElem?_set_ne hj]; exact h1, h2⟩⟩
theorem Rel.wipe (r : Rel K cA B ι e S σ H) : ∀ vs : List Nat, Rel K cA B ι (wipeE e vs) S (wipe σ vs) H
  | [] => r
  | v :: vs => (Rel.wipe r vs).none v
open Classical in
noncomputable def lcD (C : Sto → Prop) (tg : MTg) (tt : MB) (el : ME) (e0 : En) : List D → List D → Sto → RE
  | [], acc, S => if C S then .ok (.lst acc) S else .bad
  | d :: ds, acc, S => if C S then match tg d e0 with
      | none => .bad
      | some e1 => match tt e1 S with
        | .ok true S1 => match el e1 S1 with
          | .ok x S2 => if acc.length < 16777216 then lcD C tg tt el e0 ds (acc ++ [x]) S2 else .bad
          | _ => .bad
        | .ok false S1 => lcD C tg tt el e0 ds acc S1
        | _ => .bad
    else .bad
def tYs : MB := fun _ S => .ok true S
noncomputable def eLc (it : ME) (tg : MTg) (tt : MB) (el : ME) (own : List Nat) : ME := fun e S => (it e S).bind fun d S1 => match items S1 d with
  | some ds => lcD (fun S' => view S' d = view S1 d) tg tt el (wipeE e own) ds [] S1
  | none => .bad
abbrev WF : WX := fun _ _ _ _ => False
theorem lc_wk {J : It} {ds : List D} {ok : List Addr → Hp → Prop} {C : Sto → Prop} {g : TG} {m : MTg} {sl : List Nat} {tt : MB} {el : ME} {own : List Nat} {Q : VK} {p : Addr} (wk : Wk K (plus B p) J ds ok) (ht : TgD K cA g m sl) (hsl : ∀ i ∈ sl, i ∈ own) (np : H p = none)
    (hok : ∀ ι' S' H', Fr ι ι' H H' → RS K cA (plus B p) ι' S' H' → C S' → ok ι' H') (r : Rel K cA B ι e S σ H) (po : PoE K cA W B (lcD C m tt el (wipeE e own) ds [] S) ι σ H Q) :
    ∃ Wd : Nat → Nat → Hp → Prop, (∃ n, Wd 0 n (upd H p (.lst []))) ∧ ∀ i n H, Wd i n H →
      (J.stop i H ∧ Q (.ref p) H) ∨ (J.go i H ∧ ∃ Nx : Hp → Prop, (∀ H', Nx H' → ∃ n', n' < n ∧ Wd (i + 1) n' H') ∧ ∀ x H', J.yld i H x H' → g x (wipe σ own) H' fun σ2 H2 => wipe σ2 own = wipe σ own ∧ tT K cA WF tt σ2 H2 fun b H3 =>
        if b = true then tE K cA WF el σ2 H3 fun y H4 => ∃ acc, H4 p = some (.lst acc) ∧ acc.length < sizeLine ∧ Nx (upd H4 p (.lst (acc ++ [y]))) else Nx H3) := by
  refine ⟨fun i n H1 => n + i = ds.length ∧ ∃ ι1 S1 acc vs, Fr ι ι1 H H1 ∧ Rel K cA (plus B p) ι1 (wipeE e own) S1 (wipe σ own) H1 ∧ H1 p = some (.lst vs) ∧ RDs K (plus B p) ι1 H1 acc vs ∧ PoE K cA W B (lcD C m tt el (wipeE e own) (ds.drop i) acc S1) ι σ H Q, ⟨ds.length, by simp, ι, S, [], [], Fr.same (same_new np), ?_, upd_same, .nil, by simpa using po⟩, ?_⟩
  · have rw := r.wipe own
    exact ⟨r.rs.apart np, rw.len, fun i d h => let ⟨v, h1, h2⟩ := rw.ev i d h; ⟨v, h1, (h2.add np).app⟩⟩
  rintro i n H1 ⟨hn, ι1, S1, acc, vs, f1, r1, hp1, ra, p1⟩
  have nB : ¬ B p := not_B r.rs np
  have hpB : ∀ {ι3 S3 H3}, RS K cA (plus B p) ι3 S3 H3 → p ∉ ι3 := fun rs => (rs.nB p (.inr rfl)).1
  by_cases hi : i < ds.length
  · rw [List.drop_eq_getElem_cons hi] at p1
    unfold lcD at p1
    by_cases hC : C S1
    · rw [if_pos hC] at p1
      have hok1 := hok ι1 S1 H1 f1 r1.rs hC
      cases q : m ds[i] (wipeE e own) with
      | none => rw [q] at p1; exact p1.elim
      | some e2 =>
        rw [q] at p1
        simp only at p1
        refine .inr ⟨wk.go i ι1 H1 hi hok1, fun H3 => ∃ ι1 S1 acc vs, Fr ι ι1 H H3 ∧ Rel K cA (plus B p) ι1 (wipeE e own) S1 (wipe σ own) H3 ∧ H3 p = some (.lst vs) ∧ RDs K (plus B p) ι1 H3 acc vs ∧ PoE K cA W B (lcD C m tt el (wipeE e own) (ds.drop (i + 1)) acc S1) ι σ H Q, fun H3 h => ⟨n - 1, by omega, by omega, h⟩, fun x H2 y => ?_⟩
        obtain ⟨sm, rd⟩ := wk.yld i ι1 H1 x H2 ds[i] (List.getElem?_eq_getElem hi) hok1 y
        have f12 : Fr ι1 ι1 H1 H2 := Fr.same sm
        have r1' : Rel K cA (plus B p) ι1 (wipeE e own) S1 (wipe σ own) H2 := r1.fr f12 (r1.rs.same sm)
        refine ht _ ι1 _ e2 S1 _ H2 ds[i] x _ r1' rd q fun σ2 r2 hw => ⟨?_, .of r2 ?_⟩
        · rw [hw own hsl, wipe_wipe]
        cases q2 : tt e2 S1 with
        | bad => rw [q2] at p1; exact p1
        | exc c S3 => rw [q2] at p1; exact p1.elim
        | ok k S3 =>
          rw [q2] at p1
          intro ι3 H3 f3 rs3
          have f13 : Fr ι1 ι3 H1 H3 := f12.trans f3
          have hp3 : H3 p = some (.lst vs) := f13.st _ _ hp1 (hpB r1.rs)
          cases k with
          | false =>
            rw [if_neg Bool.false_ne_true]
            exact ⟨ι3, S3, acc, vs, f1.trans f13, r1.fr f13 rs3, hp3, RDs.fr f13 _ _ ra, p1⟩
          | true =>
            rw [if_pos rfl]
            simp only at p1
            refine .of (r2.fr f3 rs3) ?_
            cases q3 : el e2 S3 with
            | bad => rw [q3] at p1; exact p1
            | exc c S4 => rw [q3] at p1; exact p1.elim
            | ok z S4 =>
              rw [q3] at p1
              intro ι4 v H4 f4 rs4 rd4
              have f14 : Fr ι1 ι4 H1 H4 := f13.trans f4
              have hp4 : H4 p = some (.lst vs) := f4.st _ _ hp3 (hpB rs3)
              simp only at p1
              by_cases hz : acc.length < 16777216
              · rw [if_pos hz] at p1
                have f4' := f1.trans f14
                have r4 := r1.fr f14 rs4
                refine ⟨vs, hp4, by rw [sizeL, ← ra.len]; exact hz, ι4, S4, acc ++ [z], vs ++ [v], ⟨f4'.pre, fun a o h h2 => by
                  rw [upd_ne (ne_of_none h np)]; exact f4'.st a o h h2⟩, ⟨r4.rs.app, r4.len, fun i d h => let ⟨v, h1, h2⟩ := r4.ev i d h; ⟨v, h1, h2.app⟩⟩, upd_same, ((RDs.fr f14 _ _ ra).append (.cons rd4 .nil)).app, p1⟩
              · rw [if_neg hz] at p1; exact p1.elim
    · rw [if_neg hC] at p1; exact p1.elim
  · rw [List.drop_eq_nil_of_le (by omega)] at p1
    unfold lcD at p1
    by_cases hC : C S1
    · rw [if_pos hC] at p1
      have e' : i = ds.length := by omega
      subst e'
      exact .inl ⟨wk.stop ι1 H1 (hok ι1 S1 H1 f1 r1.rs hC), p1 ι1 _ H1 f1 r1.rs.less (.mk_lst ⟨hpB r1.rs, nB, hp1⟩ (ra.mB fun _ z => .inl z))⟩
    · rw [if_neg hC] at p1; exact p1.elim
theorem items_st {S1 : Sto} {d : D} {v : V} {ds : List D} (rd : RD K B ι H d v) (h : items S1 d = some ds) : True := trivial
section
variable {it tg elt : Expr} {ifs : List Expr} {g : TG} {m : MTg} {sl : List Nat} {tt : MB} {el mi : ME} {own : List (Str × Nat)} {scope : Scope}
theorem lc_any (hg : TgD X.K cA g m sl) (hsl : ∀ i ∈ sl, i ∈ own.map (·.2)) : ∀ σ H Q, tE X.K cA W (eLc mi m tt el (own.map (·.2))) σ H Q → tLc (iAny X.K (tE X.K cA W mi)) g (tT X.K cA WF tt) (tE X.K cA WF el) (own.map (·.2)) σ H Q := fun σ H Q ⟨B, ι, e, S, re, p⟩ => by
  unfold eLc RE.bind at p
  show iAny X.K _ σ H _
  cases q : mi e S with
  | bad => rw [q] at p; exact p.elim
  | exc c S1 => rw [q] at p; exact .inl (.of re (by rw [q]; exact p))
  | ok d S1 =>
    rw [q] at p
    simp only at p
    cases q2 : items S1 d with
    | none => rw [q2] at p; exact p.elim
    | some ds =>
      rw [q2] at p
      simp only at p
      have fin : ∀ {ι1 H1 J} {ok : List Addr → Hp → Prop} (p' : Addr), Fr ι ι1 H H1 → RS X.K cA B ι1 S1 H1 → H1 p' = none → Wk X.K (plus B p') J ds ok → (∀ ι' S' H', Fr ι1 ι' H1 H' → RS X.K cA (plus B p') ι' S' H' → view S' d = view S1 d → ok ι' H') → _ := fun {ι1 H1 J ok} p' f1 rs1 np wk hok =>
        lc_wk (W := W) (C := fun S' => view S' d = view S1 d) (g := g) (m := m) (tt := tt) (el := el) (own := own.map (·.2)) (Q := Q) wk hg hsl np (fun ι' S' H' f r c => hok ι' S' H' f r c) (re.fr f1 rs1) (by
          revert p
          cases lcD (fun S' => view S' d = view S1 d) m tt el (wipeE e (own.map (·.2))) ds [] S1 with
          | bad => exact _root_.id
          | ok d2 S2 => exact fun h ι2 v2 H2 f2 r2 d2 => h ι2 v2 H2 (f1.trans f2) r2 d2
          | exc c S2 => exact fun h ι2 H2 f2 r2 => h ι2 H2 (f1.trans f2) r2)
      unfold items at q2
      split at q2
      · refine .inl (.of re ?_)
        rw [q]
        intro ι1 v H1 f1 rs1 rd1
        rename_i es hv
        obtain ⟨a, xs, rfl, h1, h2⟩ := v_lst rs1 rd1 hv
        cases q2
        refine ⟨a, rfl, ⟨xs, h1⟩, fun p' np => fin p' f1 rs1 np wk_list fun ι' S' H' f rs' hv' => ?_⟩
        obtain ⟨a', ys, e', h3, h4⟩ := v_lst rs' (RD.fr f _ _ (rd1.add np)) (hv'.trans hv)
        cases e'
        exact ⟨ys, h3, h4⟩
      · refine .inr (.inl (.of re ?_))
        rw [q]
        intro ι1 v H1 f1 rs1 rd1
        rename_i es hv
        obtain ⟨a, xs, rfl, h1, h2⟩ := v_tup rd1 hv
        cases q2
        refine ⟨a, rfl, ⟨xs, h1.sq⟩, fun p' np => fin p' f1 rs1 np wk_tup fun ι' S' H' f rs' hv' => ?_⟩
        have hd : d = .tup _ := view_ne hv (by intro _ z; cases z) (by intro _ _ z; cases z)
        subst hd
        obtain ⟨a', ys, e', h3, h4⟩ := ((RD.fr f _ _ (rd1.add np)).tup : ∃ a xs, _)
        cases e'
        exact ⟨ys, h3, h4⟩
      · refine .inr (.inr (.of re ?_))
        rw [q]
        intro ι1 v H1 f1 rs1 rd1
        rename_i x hv
        cases q2
        exact ⟨x, v_str rd1 hv, fun p' np => fin p' f1 rs1 np wk_str fun _ _ _ _ _ _ => True.intro⟩
      · cases q2
theorem q_lc (ht : TgD X.K cA g m sl) (hsl : ∀ i ∈ sl, i ∈ own.map (·.2)) (hc : X.calm = true) (hN : X.N.Nodup) (hi : PE X it (tE X.K cA W mi)) (ok : BlkOk X.N X.env.scope scope own)
    (hg : ∀ (s : Shared) (H : Hp) (C : Addr) (cl : List (Str × Addr)) (fp : List Addr), PG (X.blk s H scope (compEnvC scope cl C X.env) fp) tg g) (hx : ∀ (s : Shared) (H : Hp) (C : Addr) (cl : List (Str × Addr)) (fp : List Addr), PTs (X.blk s H scope (compEnvC scope cl C X.env) fp) ifs (tT X.K cA WF tt))
    (he : ∀ (s : Shared) (H : Hp) (C : Addr) (cl : List (Str × Addr)) (fp : List Addr), PE (X.blk s H scope (compEnvC scope cl C X.env) fp) elt (tE X.K cA WF el)) (hs : ∀ x, foldedSetIterable it X.env x = pure x := by intro _; rfl) :
    PE X (.ListComp elt [⟨tg, it, ifs, 0⟩] scope pos) (tE X.K cA W (eLc mi m tt el (own.map (·.2)))) := PEi (pe_lc hc hN (pi_any hi) ok hg hx he hs) (lc_any ht hsl)
theorem s_setLc {i : Nat} {y : Str} {py spos : Pos} (ht : TgD X.K cA g m sl) (hsl : ∀ i ∈ sl, i ∈ own.map (·.2)) (hc : X.calm = true) (hN : X.N.Nodup) (hy : X.N[i]? = some y) (hyl : X.env.scope.names.lookup y = some .local)
    (hsw : swapsWith (.ListComp elt [⟨tg, it, ifs, 0⟩] scope pos) (some (.Name y py)) spos.line X.env = pure true) (hi : PE X it (tE X.K cA W mi)) (ok : BlkOk X.N X.env.scope scope own)
    (hg : ∀ (s : Shared) (H : Hp) (C : Addr) (cl : List (Str × Addr)) (fp : List Addr), PG (X.blk s H scope (compEnvC scope cl C X.env) fp) tg g) (hx : ∀ (s : Shared) (H : Hp) (C : Addr) (cl : List (Str × Addr)) (fp : List Addr), PTs (X.blk s H scope (compEnvC scope cl C X.env) fp) ifs (tT X.K cA WF tt))
    (he : ∀ (s : Shared) (H : Hp) (C : Addr) (cl : List (Str × Addr)) (fp : List Addr), PE (X.blk s H scope (compEnvC scope cl C X.env) fp) elt (tE X.K cA WF el)) (hs : ∀ x, foldedSetIterable it X.env x = pure x := by intro _; rfl) :
    PS X (.Assign [.Name y py] (.ListComp elt [⟨tg, it, ifs, 0⟩] scope pos) spos) (tS X.K cA W (sSet i (eLc mi m tt el (own.map (·.2))))) :=
  PSi (ps_setLc hc hN hy hyl hsw (pi_any hi) ok hg hx he hs) fun D' σ H ⟨B, ι, e, S, re, p⟩ => lc_any ht hsl σ H _ (.of re (po_bindS re p fun ι1 v1 H1 d1 S1 f1 r1 rd1 p1 => p1 ι1 _ H1 Fr.refl (r1.set rd1)))
theorem x_nil : PTs X [] (tT X.K cA W tYs) := ⟨fun pins s σ H Q I ⟨B, ι, e, S, re, p⟩ => pts_nil.run pins s σ H Q I (p ι H Fr.refl re.rs)⟩
theorem x_one {xa : MB} (h : PT X a (tT X.K cA W xa)) : PTs X [a] (tT X.K cA W xa) := pts_one h
end
end
end DL

/-! The data layer: functions and calls. -/
namespace DL
open PySem PySem.Spec PyProof.Rows L2

/-! ### data that hold no cell -/
mutual
def cl : D → Bool
  | .tup ds => cls ds
  | .lst ds => cls ds
  | .dct _ ds => cls ds
  | .obj _ => false
  | .scr ds => cls ds
  | _ => true
def cls : List D → Bool
  | [] => true
  | d :: ds => cl d && cls ds
end
/-- data without a cell, or a cell -/
def flatO : D → Bool
  | .obj _ => true
  | d => cl d
def kids : Cell → List Nat
  | .ins _ fs => fs.filterMap fun p => match p.2 with | .obj n => some n | _ => none
  | _ => []
def okC : Cell → Bool
  | .lst ds => cls ds
  | .dct _ ds => cls ds
  | .ins _ fs => fs.all fun p => flatO p.2
/-- the cells that are reached -/
def clo (S : Sto) : Nat → List Nat → List Nat → List Nat
  | 0, _, dn => dn
  | _ + 1, [], dn => dn
  | f + 1, n :: t, dn => if n ∈ dn then clo S f t dn else match S[n]? with
    | some c => clo S f (t ++ kids c) (dn ++ [n])
    | none => clo S f t dn
def tops (ds : List D) : List Nat := ds.filterMap fun d => match d with | .obj n => some n | _ => none
/-- names of cells, in and out -/
def mapO (f : Nat → Nat) : D → D
  | .obj n => .obj (f n)
  | d => d
def mapC (f : Nat → Nat) : Cell → Cell
  | .ins C fs => .ins C (fs.map fun p => (p.1, mapO f p.2))
  | c => c
def inj1 (js : List Nat) : D → Bool
  | .obj n => decide (n ∈ js)
  | _ => true
def inC (js : List Nat) : Cell → Bool
  | .ins _ fs => fs.all fun p => inj1 js p.2
  | _ => true
/-- how a call's cells come back: the first ones in their places, the others behind -/
def outN (js : List Nat) (L : Nat) (n : Nat) : Nat := if n < js.length then js.getD n 0 else L + (n - js.length)
def back (js : List Nat) (S S2 : Sto) : Sto := (S.mapIdx fun k c => if k ∈ js then mapC (outN js S.length) (S2.getD (js.idxOf k) c) else c) ++ (S2.drop js.length).map (mapC (outN js S.length))
def goodC (js : List Nat) (S : Sto) (j : Nat) : Bool := match S[j]? with | some c => okC c && inC js c | none => false
def callJ (m : MF) (ds : List D) (S : Sto) (js : List Nat) : RE :=
  if (decide js.Nodup && ds.all flatO && ds.all (inj1 js) && js.all (goodC js S)) = true then
    match m (ds.map (mapO js.idxOf)) (js.map fun j => mapC js.idxOf (S.getD j (.lst []))) with
    | .ok d S2 => if (flatO d && S2.all okC) = true then .ok (mapO (outN js S.length) d) (back js S S2) else .bad
    | .exc c S2 => if S2.all okC = true then .exc c (back js S S2) else .bad
    | .bad => .bad
  else .bad
def callS (m : MF) (ds : List D) (S : Sto) : RE := callJ m ds S (clo S 100 (tops ds) [])
def eCall (m : MF) (am : MA) : ME := fun e S => (am e S).bind fun ds S1 => callS m ds S1

/-- a function's body -/
def fnK (N : Nat) (body : MS) : MF := fun ds S => match body (ds.map some ++ List.replicate (N - ds.length) none) S with
  | .nx _ S' => .ok .non S'
  | .ret d S' => .ok d S'
  | .exc c _ S' => .exc c S'
  | _ => .bad
mutual
def low (k : Nat) : D → Bool
  | .tup ds => lows k ds
  | .lst ds => lows k ds
  | .dct _ ds => lows k ds
  | .obj n => decide (n < k)
  | .scr ds => lows k ds
  | _ => true
def lows (k : Nat) : List D → Bool
  | [] => true
  | d :: ds => low k d && lows k ds
end
def lowC (k : Nat) : Cell → Bool
  | .lst ds => lows k ds
  | .dct _ ds => lows k ds
  | .ins _ fs => fs.all fun p => low k p.2
/-- what is handed back stands still -/
def still (k : Nat) (S : Sto) : D → D
  | .obj n => if k ≤ n then match S[n]? with | some (.lst ds) => .lst ds | some (.dct ks ds) => .dct ks ds | _ => .obj n else .obj n
  | d => d
/-- a function of whose new cells nothing is left -/
def fnD (N : Nat) (body : MS) : MF := fun ds S => match fnK N body ds S with
  | .ok d S' => if low S.length (still S.length S' d) = true ∧ (S'.take S.length).all (lowC S.length) = true then .ok (still S.length S' d) (S'.take S.length) else .bad
  | .exc c S' => if (S'.take S.length).all (lowC S.length) = true then .exc c (S'.take S.length) else .bad
  | .bad => .bad

section
variable {X : Cx} {K : PySem.W.Frag} {cA : Str → Addr} {W : WX} {B B' : Addr → Prop} {ι ι' : List Addr} {S : Sto} {H H' : Hp} {σ : L2.St} {e : En}
/-- the promise -/
def PoF (K : PySem.W.Frag) (cA : Str → Addr) (B : Addr → Prop) (r : RE) (ι : List Addr) (H : Hp) (Q : VK) (E : XK) : Prop :=
  match r with
  | .ok d S => ∀ ι' v H', Fr ι ι' H H' → RS K cA B ι' S H' → RD K B ι' H' d v → Q v H'
  | .exc c S => ∀ ι' H', Fr ι ι' H H' → RS K cA B ι' S H' → E (.ref (cA c)) none H'
  | .bad => False
def spM (K : PySem.W.Frag) (cA : Str → Addr) (n : Nat) (m : MF) : Sp := fun vs H Q E => ∃ B ι ds S, ds.length = n ∧ RDs K B ι H ds vs ∧ RS K cA B ι S H ∧ PoF K cA B (m ds S) ι H Q E
theorem RDs.getR : ∀ {ds : List D} {vs : List V}, RDs K B ι H ds vs → ∀ (n : Nat) (i : Nat) (d : D), (ds.map some ++ List.replicate n none)[i]? = some (some d) → ∃ v, (vs.map some ++ List.replicate n none)[i]? = some (some v) ∧ RD K B ι H d v := fun {ds vs} r n i d h => by
  by_cases hi : i < ds.length
  · rw [List.getElem?_append_left (by rw [List.length_map]; exact hi), List.getElem?_map] at h
    cases q : ds[i]? with
    | none => rw [q] at h; cases h
    | some d' =>
      rw [q] at h; cases h
      obtain ⟨v, h1, h2⟩ := r.get q
      exact ⟨v, by rw [List.getElem?_append_left (by rw [List.length_map, ← r.len]; exact hi), List.getElem?_map, h1]; rfl, h2⟩
  · rw [List.getElem?_append_right (by rw [List.length_map]; omega)] at h
    obtain ⟨_, h⟩ := List.getElem?_eq_some_iff.mp h
    simp at h
theorem rel_start {N : List Str} {ds : List D} {vs : List V} (r : RDs K B ι H ds vs) (rs : RS K cA B ι S H) : Rel K cA B ι (ds.map some ++ List.replicate (N.length - ds.length) none) S (L2.start N vs) H :=
  ⟨rs, by unfold L2.start; rw [List.length_append, List.length_append, List.length_map, List.length_map, List.length_replicate, List.length_replicate, r.len], fun i d h => by
    unfold L2.start
    rw [← r.len]
    exact r.getR _ i d h⟩
theorem body_ok {N : List Str} {body : MS} {ds : List D} {vs : List V} {Q : VK} {E : XK} (r : RDs K B ι H ds vs) (rs : RS K cA B ι S H) (h : PoF K cA B (fnK N.length body ds S) ι H Q E) :
    tS K cA (fun c d _ H' => E c d H') body { nx := fun _ H' => Q .non H', rt := Q } (L2.start N vs) H := .of (rel_start r rs) (by
  unfold fnK at h
  cases q : body (ds.map some ++ List.replicate (N.length - ds.length) none) S with
  | bad => rw [q] at h; exact h
  | brk _ _ => rw [q] at h; exact h.elim
  | cont _ _ => rw [q] at h; exact h.elim
  | nx e' S' => rw [q] at h; exact fun ι' σ' H' f r => h ι' _ H' f r.rs RD.mk_non
  | ret d S' => rw [q] at h; exact h
  | exc c e' S' => rw [q] at h; exact fun ι' σ' H' f r => h ι' H' f r.rs)

/-! ### less is left -/
mutual
theorem RD.cut {k : Nat} : ∀ (d : D) (v : V), low k d = true → RD K B ι H d v → RD K B (ι.take k) H d v
  | .non, v, _, h => by rw [RD] at h ⊢; exact h
  | .bl b, v, _, h => by rw [RD] at h ⊢; exact h
  | .int i, v, _, h => by rw [RD] at h ⊢; exact h
  | .str x, v, _, h => by rw [RD] at h ⊢; exact h
  | .tup ds, v, l, h => by
    rw [low] at l
    rw [RD] at h ⊢
    obtain ⟨a, xs, e, h1, h2⟩ := h
    refine ⟨a, xs, e, ?_, RDs.cut ds xs l h2⟩
    rcases h1 with ⟨h1, h3⟩ | h1
    · exact .inl ⟨fun m => h1 (List.mem_of_mem_take m), h3⟩
    · exact .inr h1
  | .lst ds, v, l, h => by
    rw [low] at l
    rw [RD] at h ⊢
    obtain ⟨a, xs, e, ⟨h1, h3⟩, h2⟩ := h
    exact ⟨a, xs, e, ⟨fun m => h1 (List.mem_of_mem_take m), h3⟩, RDs.cut ds xs l h2⟩
  | .dct ks ds, v, l, h => by
    rw [low] at l
    rw [RD] at h ⊢
    obtain ⟨a, xs, e, h1, h2, h3, h4, h5⟩ := h
    exact ⟨a, xs, e, fun m => h1 (List.mem_of_mem_take m), h2, h3, h4, RDs.cut ds xs l h5⟩
  | .obj n, v, l, h => by
    rw [low, decide_eq_true_eq] at l
    rw [RD] at h ⊢
    obtain ⟨a, e, h1⟩ := h
    exact ⟨a, e, by rw [List.getElem?_take_of_lt l]; exact h1⟩
  | .scr ds, v, l, h => by
    rw [low] at l
    rw [RD] at h ⊢
    obtain ⟨a, xs, e, h1, h2⟩ := h
    exact ⟨a, xs, e, h1.imp (fun ⟨h1, h3⟩ => ⟨fun m => h1 (List.mem_of_mem_take m), h3⟩) _root_.id, RDs.cut ds xs l h2⟩
theorem RDs.cut {k : Nat} : ∀ (ds : List D) (vs : List V), lows k ds = true → RDs K B ι H ds vs → RDs K B (ι.take k) H ds vs
  | [], vs, _, h => by rw [RDs] at h ⊢; exact h
  | d :: ds, vs, l, h => by
    rw [lows, Bool.and_eq_true] at l
    rw [RDs] at h ⊢
    obtain ⟨v, r, e, h1, h2⟩ := h
    exact ⟨v, r, e, RD.cut d v l.1 h1, RDs.cut ds r l.2 h2⟩
end
theorem lows_map {k : Nat} : ∀ {fs : List (Str × D)}, (fs.all fun p => low k p.2) = true → lows k (fs.map (·.2)) = true
  | [], _ => rfl
  | f :: fs, h => by
    rw [List.all_cons, Bool.and_eq_true] at h
    rw [List.map_cons, lows, h.1, lows_map h.2]; rfl
theorem RS.cut {k : Nat} (r : RS K cA B ι S H) (h : (S.take k).all (lowC k) = true) : RS K cA B (ι.take k) (S.take k) H := by
  refine ⟨by rw [List.length_take, List.length_take, r.len], r.nd.sublist (List.take_sublist _ _), fun a b => ?_, fun i c e => ?_⟩
  · obtain ⟨h1, o, h2⟩ := r.nB a b
    exact ⟨fun m => h1 (List.mem_of_mem_take m), o, h2⟩
  · have hl : lowC k c = true := List.all_eq_true.mp h c (List.mem_of_getElem? e)
    have hi : i < k := by
      have := (List.getElem?_eq_some_iff.mp e).1
      rw [List.length_take] at this; omega
    rw [List.getElem?_take_of_lt hi] at e
    obtain ⟨a, h1, h2⟩ := r.at_ i c e
    refine ⟨a, by rw [List.getElem?_take_of_lt hi]; exact h1, ?_⟩
    cases c with
    | lst ds => obtain ⟨xs, h3, h4⟩ := h2; exact ⟨xs, h3, RDs.cut _ _ hl h4⟩
    | dct ks ds => obtain ⟨xs, h3, h4, h5⟩ := h2; exact ⟨xs, h3, h4, RDs.cut _ _ hl h5⟩
    | ins C fs => obtain ⟨dx, xs, h3, h4, h5⟩ := h2; exact ⟨dx, xs, h3, h4, RDs.cut _ _ (lows_map hl) h5⟩
theorem Fr.cut (f : Fr ι ι' H H') : Fr ι (ι'.take ι.length) H H' := by
  obtain ⟨⟨l, rfl, p⟩, s⟩ := f
  rw [List.take_left]
  exact ⟨⟨[], by simp, by simp⟩, s⟩
theorem RD.still {k : Nat} {d : D} {v : V} (rs : RS K cA B ι S H) (h : low k (still k S d) = true) (r : RD K B ι H d v) : RD K B (ι.take k) H (still k S d) v := by
  cases d with
  | obj n =>
    unfold DL.still at h ⊢
    simp only at h ⊢
    by_cases hn : k ≤ n
    · rw [if_pos hn] at h ⊢
      have out : ∀ {a}, ι[n]? = some a → a ∉ ι.take k := fun {a} h1 m => by
        obtain ⟨i, hi, e⟩ := List.getElem_of_mem m
        rw [List.getElem_take] at e
        rw [List.length_take] at hi
        obtain ⟨hn', e'⟩ := List.getElem?_eq_some_iff.mp h1
        exact (List.pairwise_iff_getElem.mp rs.nd i n (by omega) hn' (by omega)) (e.trans e'.symm)
      have nb : ∀ {a}, ι[n]? = some a → ¬ B a := fun {a} h1 z => (rs.nB a z).1 (List.mem_of_getElem? h1)
      obtain ⟨a, rfl, h1⟩ := r.obj
      cases q : S[n]? with
      | none => rw [q] at h; simp only at h; rw [low, decide_eq_true_eq] at h; omega
      | some c =>
        rw [q] at h
        obtain ⟨a', h2, h3⟩ := rs.at_ n c q
        rw [h1] at h2; cases h2
        cases c with
        | lst ds =>
          obtain ⟨xs, h4, h5⟩ := h3
          simp only at h ⊢
          rw [low] at h
          exact .mk_lst ⟨out h1, nb h1, h4⟩ (RDs.cut _ _ h h5)
        | dct ks ds =>
          obtain ⟨xs, h4, h5, h6⟩ := h3
          simp only at h ⊢
          rw [low] at h
          rw [RD]
          exact ⟨a, xs, rfl, out h1, nb h1, h4, h5, RDs.cut _ _ h h6⟩
        | ins C fs => simp only at h; rw [low, decide_eq_true_eq] at h; omega
    · rw [if_neg hn] at h ⊢
      exact RD.cut _ _ h r
  | _ => exact RD.cut _ _ h r
theorem PoF.drop {N : Nat} {body : MS} {ds : List D} {Q : VK} {E : XK} (hl : S.length = ι.length) (h : PoF K cA B (fnD N body ds S) ι H Q E) : PoF K cA B (fnK N body ds S) ι H Q E := by
  unfold fnD at h
  cases q : fnK N body ds S with
  | bad => rw [q] at h; exact h
  | exc c S' =>
    rw [q] at h
    simp only at h
    split at h
    · rename_i hc
      rw [hl] at hc h
      exact fun ι' H' f r => h (ι'.take ι.length) H' f.cut (r.cut hc)
    · exact h.elim
  | ok d S' =>
    rw [q] at h
    simp only at h
    split at h
    · rename_i hc
      rw [hl] at hc h
      exact fun ι' v H' f r rd => h (ι'.take ι.length) v H' f.cut (r.cut hc.2) (rd.still r hc.1)
    · exact h.elim

/-! ### a call -/
mutual
theorem RD.cl (k : ∀ a, a ∉ ι → ¬ B a → a ∉ ι' ∧ ¬ B' a) : ∀ (d : D) (v : V), DL.cl d = true → RD K B ι H d v → RD K B' ι' H d v
  | .non, v, _, h => by rw [RD] at h ⊢; exact h
  | .bl b, v, _, h => by rw [RD] at h ⊢; exact h
  | .int i, v, _, h => by rw [RD] at h ⊢; exact h
  | .str x, v, _, h => by rw [RD] at h ⊢; exact h
  | .tup ds, v, l, h => by
    rw [DL.cl] at l
    rw [RD] at h ⊢
    obtain ⟨a, xs, e, h1, h2⟩ := h
    refine ⟨a, xs, e, ?_, RDs.cl k ds xs l h2⟩
    rcases h1 with ⟨h1, h3, h4⟩ | h1
    · exact .inl ⟨(k a h1 h3).1, (k a h1 h3).2, h4⟩
    · exact .inr h1
  | .lst ds, v, l, h => by
    rw [DL.cl] at l
    rw [RD] at h ⊢
    obtain ⟨a, xs, e, ⟨h1, h3, h4⟩, h2⟩ := h
    exact ⟨a, xs, e, ⟨(k a h1 h3).1, (k a h1 h3).2, h4⟩, RDs.cl k ds xs l h2⟩
  | .dct ks ds, v, l, h => by
    rw [DL.cl] at l
    rw [RD] at h ⊢
    obtain ⟨a, xs, e, h1, h2, h3, h4, h5⟩ := h
    exact ⟨a, xs, e, (k a h1 h2).1, (k a h1 h2).2, h3, h4, RDs.cl k ds xs l h5⟩
  | .obj n, v, l, h => by rw [DL.cl] at l; cases l
  | .scr ds, v, l, h => by
    rw [DL.cl] at l
    rw [RD] at h ⊢
    obtain ⟨a, xs, e, h1, h2⟩ := h
    exact ⟨a, xs, e, h1.imp (fun ⟨h1, h3, h4⟩ => ⟨(k a h1 h3).1, (k a h1 h3).2, h4⟩) _root_.id, RDs.cl k ds xs l h2⟩
theorem RDs.cl (k : ∀ a, a ∉ ι → ¬ B a → a ∉ ι' ∧ ¬ B' a) : ∀ (ds : List D) (vs : List V), DL.cls ds = true → RDs K B ι H ds vs → RDs K B' ι' H ds vs
  | [], vs, _, h => by rw [RDs] at h ⊢; exact h
  | d :: ds, vs, l, h => by
    rw [DL.cls, Bool.and_eq_true] at l
    rw [RDs] at h ⊢
    obtain ⟨v, r, e, h1, h2⟩ := h
    exact ⟨v, r, e, RD.cl k d v l.1 h1, RDs.cl k ds r l.2 h2⟩
end
/-- a value with its cell renamed -/
theorem RD.mapO {f : Nat → Nat} {d : D} {v : V} (k : ∀ a, a ∉ ι → ¬ B a → a ∉ ι' ∧ ¬ B' a) (hf : flatO d = true) (ho : ∀ n a, d = .obj n → ι[n]? = some a → ι'[f n]? = some a) (h : RD K B ι H d v) : RD K B' ι' H (DL.mapO f d) v := by
  cases d with
  | obj n =>
    obtain ⟨a, rfl, h1⟩ := h.obj
    exact .mk_obj (ho n a rfl h1)
  | _ => exact RD.cl k _ _ hf h
theorem RDs.mapO {f : Nat → Nat} (k : ∀ a, a ∉ ι → ¬ B a → a ∉ ι' ∧ ¬ B' a) : ∀ {ds : List D} {vs : List V}, ds.all flatO = true → (∀ n a, D.obj n ∈ ds → ι[n]? = some a → ι'[f n]? = some a) → RDs K B ι H ds vs → RDs K B' ι' H (ds.map (DL.mapO f)) vs
  | [], vs, _, _, h => by rw [h.nil_inv]; exact .nil
  | d :: ds, vs, hf, ho, h => by
    obtain ⟨v, t, rfl, h1, h2⟩ := h.cons_inv
    rw [List.all_cons, Bool.and_eq_true] at hf
    exact .cons (h1.mapO k hf.1 fun n a e => ho n a (by rw [e]; exact List.mem_cons_self)) (RDs.mapO k hf.2 (fun n a e => ho n a (List.mem_cons_of_mem _ e)) h2)
theorem RO.mapC {f : Nat → Nat} {a : Addr} {c : Cell} (k : ∀ a, a ∉ ι → ¬ B a → a ∉ ι' ∧ ¬ B' a) (hf : okC c = true) (ho : ∀ C fs n a, c = .ins C fs → D.obj n ∈ fs.map (·.2) → ι[n]? = some a → ι'[f n]? = some a) (h : RO K cA B ι H a c) : RO K cA B' ι' H a (DL.mapC f c) := by
  cases c with
  | lst ds => obtain ⟨xs, h1, h2⟩ := h; exact ⟨xs, h1, RDs.cl k _ _ hf h2⟩
  | dct ks ds => obtain ⟨xs, h1, h2, h3⟩ := h; exact ⟨xs, h1, h2, RDs.cl k _ _ hf h3⟩
  | ins C fs =>
    obtain ⟨dx, xs, h1, h2, h3⟩ := h
    have e1 : (fs.map fun p => (p.1, DL.mapO f p.2)).map (·.1) = fs.map (·.1) := by rw [List.map_map]; rfl
    have e2 : (fs.map fun p => (p.1, DL.mapO f p.2)).map (·.2) = (fs.map (·.2)).map (DL.mapO f) := by rw [List.map_map, List.map_map]; rfl
    refine ⟨dx, xs, by rw [e1]; exact h1, by rw [List.length_map]; exact h2, ?_⟩
    rw [e2]
    refine RDs.mapO k ?_ (fun n a m => ho C fs n a rfl m) h3
    rw [List.all_map]
    exact hf
theorem idx_get {js : List Nat} {n : Nat} (h : n ∈ js) : js[js.idxOf n]? = some n := by
  have hl := List.idxOf_lt_length_of_mem h
  rw [List.getElem?_eq_getElem hl, List.getElem_idxOf]
theorem call_sub {m : MF} {ds : List D} {vs : List V} {Q : VK} {js : List Nat} (rs : RS K cA B ι S H) (r : RDs K B ι H ds vs) (h : PoE K cA W B (callJ m ds S js) ι σ H Q) : spM K cA ds.length m vs H Q (WE W σ) := by
  unfold callJ at h
  split at h
  case isFalse => exact h.elim
  rename_i hc
  simp only [Bool.and_eq_true, decide_eq_true_eq, List.all_eq_true] at hc
  obtain ⟨⟨⟨hnd, hfl⟩, hin⟩, hgood⟩ := hc
  have hj : ∀ j ∈ js, ∃ c a, S[j]? = some c ∧ okC c = true ∧ inC js c = true ∧ ι[j]? = some a ∧ RO K cA B ι H a c := fun j m => by
    have g := hgood j m
    unfold goodC at g
    split at g
    · rename_i c q
      rw [Bool.and_eq_true] at g
      obtain ⟨a, h1, h2⟩ := rs.at_ j c q
      exact ⟨c, a, q, g.1, g.2, h1, h2⟩
    · cases g
  let ι2 : List Addr := js.map fun j => ι.getD j 0
  let B2 : Addr → Prop := fun a => B a ∨ (a ∈ ι ∧ a ∉ ι2)
  have sub2 : ∀ a ∈ ι2, a ∈ ι := fun a m => by
    obtain ⟨j, hm, e⟩ := List.mem_map.mp m
    obtain ⟨c, a', _, _, _, h1, _⟩ := hj j hm
    rw [List.getD_eq_getElem?_getD, h1] at e
    simp at e; subst e
    exact List.mem_of_getElem? h1
  have get2 : ∀ {i j : Nat}, js[i]? = some j → ι2[i]? = ι[j]? := fun {i j} e => by
    show (js.map fun j => ι.getD j 0)[i]? = _
    rw [List.getElem?_map, e]
    obtain ⟨c, a', _, _, _, h1, _⟩ := hj j (List.mem_of_getElem? e)
    simp [List.getD_eq_getElem?_getD, h1]
  have kin : ∀ a, a ∉ ι → ¬ B a → a ∉ ι2 ∧ ¬ B2 a := fun a h1 h2 => ⟨fun m => h1 (sub2 a m), fun z => z.elim h2 fun z => h1 z.1⟩
  have oin : ∀ n a, n ∈ js → ι[n]? = some a → ι2[js.idxOf n]? = some a := fun n a m e => by rw [get2 (idx_get m)]; exact e
  have rs2 : RS K cA B2 ι2 (js.map fun j => DL.mapC js.idxOf (S.getD j (.lst []))) H := by
    refine ⟨by simp [ι2], ?_, fun a z => ?_, fun i c e => ?_⟩
    · show List.Pairwise _ _
      rw [List.pairwise_map]
      refine hnd.imp_of_mem fun {x y} hx hy hne => ?_
      obtain ⟨_, a1, _, _, _, h1, _⟩ := hj x hx
      obtain ⟨_, a2, _, _, _, h2, _⟩ := hj y hy
      simp only [List.getD_eq_getElem?_getD, h1, h2, Option.getD_some]
      intro e
      subst e
      obtain ⟨l1, e1⟩ := List.getElem?_eq_some_iff.mp h1
      obtain ⟨l2, e2⟩ := List.getElem?_eq_some_iff.mp h2
      rcases Nat.lt_or_gt_of_ne hne with z | z
      · exact (List.pairwise_iff_getElem.mp rs.nd x y l1 l2 z) (e1.trans e2.symm)
      · exact (List.pairwise_iff_getElem.mp rs.nd y x l2 l1 z) (e2.trans e1.symm)
    · rcases z with z | z
      · obtain ⟨h1, o, h2⟩ := rs.nB a z
        exact ⟨fun m => h1 (sub2 a m), o, h2⟩
      · obtain ⟨o, h2⟩ := rs.there z.1
        exact ⟨z.2, o, h2⟩
    · rw [List.getElem?_map] at e
      cases q : js[i]? with
      | none => rw [q] at e; cases e
      | some j =>
        rw [q] at e
        obtain ⟨c0, a, h0, hok, hic, h1, h2⟩ := hj j (List.mem_of_getElem? q)
        simp only [Option.map_some, List.getD_eq_getElem?_getD, h0, Option.getD_some, Option.some.injEq] at e
        subst e
        refine ⟨a, by rw [get2 q]; exact h1, RO.mapC kin hok (fun C fs n b ec mm eb => ?_) h2⟩
        subst ec
        obtain ⟨p, hp, ep⟩ := List.mem_map.mp mm
        have := List.all_eq_true.mp hic p hp
        rw [ep] at this
        exact oin n b (of_decide_eq_true this) eb
  have rd2 : RDs K B2 ι2 H (ds.map (DL.mapO js.idxOf)) vs := RDs.mapO kin (List.all_eq_true.mpr hfl) (fun n a m e => oin n a (of_decide_eq_true (hin _ m)) e) r
  -- behind the call
  have fin : ∀ {ι' H' S2}, Fr ι2 ι' H H' → RS K cA B2 ι' S2 H' → S2.all okC = true → ∃ ι1, Fr ι ι1 H H' ∧ RS K cA B ι1 (back js S S2) H' ∧ ∀ d v, flatO d = true → RD K B2 ι' H' d v → RD K B ι1 H' (DL.mapO (outN js S.length) d) v := fun {ι' H' S2} f rs' hok => by
    obtain ⟨⟨l, rfl, hl⟩, hst⟩ := f
    have l2 : ι2.length = js.length := by simp [ι2]
    have hout : ∀ a, a ∉ ι2 ++ l → ¬ B2 a → a ∉ ι ++ l ∧ ¬ B a := fun a h1 h2 => by
      refine ⟨fun m => ?_, fun z => h2 (.inl z)⟩
      rcases List.mem_append.mp m with m | m
      · exact h2 (.inr ⟨m, fun z => h1 (List.mem_append_left _ z)⟩)
      · exact h1 (List.mem_append_right _ m)
    have oout : ∀ n a, (ι2 ++ l)[n]? = some a → (ι ++ l)[outN js S.length n]? = some a := fun n a e => by
      unfold outN
      by_cases hn : n < js.length
      · rw [if_pos hn]
        rw [List.getElem?_append_left (by rw [l2]; exact hn)] at e
        have q : js[n]? = some js[n] := List.getElem?_eq_getElem hn
        rw [get2 q] at e
        rw [List.getD_eq_getElem?_getD, q, Option.getD_some, List.getElem?_append_left (List.getElem?_eq_some_iff.mp e).1]
        exact e
      · rw [if_neg hn]
        rw [List.getElem?_append_right (by rw [l2]; omega), l2] at e
        rw [List.getElem?_append_right (by rw [rs.len]; omega), rs.len]
        rw [show S.length + (n - js.length) - S.length = n - js.length by omega]
        exact e
    have hl' : ∀ a ∈ l, a ∉ ι ∧ H a = none := fun a m => by
      refine ⟨fun z => ?_, (hl a m).2⟩
      obtain ⟨o, q⟩ := rs.there z
      rw [(hl a m).2] at q; cases q
    have fr : Fr ι (ι ++ l) H H' := ⟨⟨l, rfl, hl'⟩, fun a o e n => hst a o e fun m => n (sub2 a m)⟩
    refine ⟨ι ++ l, fr, ⟨?_, ?_, fun a z => ?_, fun i c e => ?_⟩, fun d v hf rd => rd.mapO hout hf fun n a _ e => oout n a e⟩
    · have := rs'.len
      rw [List.length_append, l2] at this
      unfold back
      rw [List.length_append, List.length_append, List.length_mapIdx, List.length_map, List.length_drop, rs.len]
      omega
    · rw [List.nodup_append]
      have := rs'.nd
      rw [List.nodup_append] at this
      exact ⟨rs.nd, this.2.1, fun a ha b hb e => (hl' b hb).1 (e ▸ ha)⟩
    · obtain ⟨h1, o, h2⟩ := rs.nB a z
      refine ⟨fun m => ?_, o, hst a o h2 fun m => h1 (sub2 a m)⟩
      rcases List.mem_append.mp m with m | m
      · exact h1 m
      · rw [(hl a m).2] at h2; cases h2
    · unfold back at e
      by_cases hi : i < S.length
      · rw [List.getElem?_append_left (by rw [List.length_mapIdx]; exact hi), List.getElem?_mapIdx, List.getElem?_eq_getElem hi, Option.map_some] at e
        by_cases hm : i ∈ js
        · rw [if_pos hm] at e
          have hix := List.idxOf_lt_length_of_mem hm
          have hlen : js.idxOf i < S2.length := by
            have := rs'.len
            rw [List.length_append, l2] at this
            omega
          rw [List.getD_eq_getElem?_getD, List.getElem?_eq_getElem hlen, Option.getD_some] at e
          cases e
          obtain ⟨a, h1, h2⟩ := rs'.at_ (js.idxOf i) _ (List.getElem?_eq_getElem hlen)
          have ok2 : okC S2[js.idxOf i] = true := List.all_eq_true.mp hok _ (List.getElem_mem hlen)
          refine ⟨a, ?_, RO.mapC hout ok2 (fun C fs n b _ _ eb => oout n b eb) h2⟩
          rw [List.getElem?_append_left (by rw [l2]; exact hix), get2 (idx_get hm)] at h1
          rw [List.getElem?_append_left (List.getElem?_eq_some_iff.mp h1).1]
          exact h1
        · rw [if_neg hm] at e
          cases e
          obtain ⟨a, h1, h2⟩ := rs.at_ i _ (List.getElem?_eq_getElem hi)
          obtain ⟨o, ho⟩ := h2.has
          refine ⟨a, fr.get h1, h2.fr fr ?_⟩
          rw [ho]
          refine hst a o ho fun m => ?_
          obtain ⟨j, hm', e⟩ := List.mem_map.mp m
          obtain ⟨_, a2, _, _, _, h3, _⟩ := hj j hm'
          rw [List.getD_eq_getElem?_getD, h3, Option.getD_some] at e
          subst e
          obtain ⟨l1, e1⟩ := List.getElem?_eq_some_iff.mp h1
          obtain ⟨l2, e2⟩ := List.getElem?_eq_some_iff.mp h3
          have hne : i ≠ j := fun z => hm (z ▸ hm')
          rcases Nat.lt_or_gt_of_ne hne with z | z
          · exact (List.pairwise_iff_getElem.mp rs.nd i j l1 l2 z) (e1.trans e2.symm)
          · exact (List.pairwise_iff_getElem.mp rs.nd j i l2 l1 z) (e2.trans e1.symm)
      · rw [List.getElem?_append_right (by rw [List.length_mapIdx]; omega), List.length_mapIdx, List.getElem?_map, List.getElem?_drop] at e
        cases q : S2[js.length + (i - S.length)]? with
        | none => rw [q] at e; cases e
        | some c0 =>
          rw [q] at e; cases e
          obtain ⟨a, h1, h2⟩ := rs'.at_ _ _ q
          refine ⟨a, ?_, RO.mapC hout (List.all_eq_true.mp hok _ (List.mem_of_getElem? q)) (fun C fs n b _ _ eb => oout n b eb) h2⟩
          rw [List.getElem?_append_right (by rw [l2]; omega), l2] at h1
          rw [List.getElem?_append_right (by rw [rs.len]; omega), rs.len]
          rw [show js.length + (i - S.length) - js.length = i - S.length by omega] at h1
          exact h1
  refine ⟨B2, ι2, _, _, List.length_map .., rd2, rs2, ?_⟩
  cases q : m (ds.map (DL.mapO js.idxOf)) (js.map fun j => DL.mapC js.idxOf (S.getD j (.lst []))) with
  | bad => rw [q] at h; exact h.elim
  | exc c S2 =>
    rw [q] at h
    simp only at h
    intro ι' H' f rs'
    split at h
    · rename_i hok
      obtain ⟨ι1, f1, r1, _⟩ := fin f rs' hok
      exact h ι1 H' f1 r1
    · exact h.elim
  | ok d S2 =>
    rw [q] at h
    simp only at h
    intro ι' v H' f rs' rd
    split at h
    · rename_i hok
      rw [Bool.and_eq_true] at hok
      obtain ⟨ι1, f1, r1, k1⟩ := fin f rs' hok.2
      exact h ι1 v H' f1 r1 (k1 d v hok.1 rd)
    · exact h.elim
end
end DL

/-! The data layer: more rules. -/
namespace DL
open PySem PySem.Spec PyProof.Rows L2
section
variable {X : Cx} {K : PySem.W.Frag} {cA : Str → Addr} {W : WX} {B B' : Addr → Prop} {ι ι' : List Addr} {S : Sto} {H H' : Hp} {σ : L2.St} {e : En}
variable {a b c : Expr} {es : List Expr} {ma mb mc : ME} {xs : MA} {pos : Pos} {st : Stmt} {sts : List Stmt} {sa sb : MS} {g g' : Sto → D → D → Option D}
/-! ### a < b < c -/
def e3 (g g' : Sto → D → D → Option D) (a b c : ME) : ME := fun e S => (a e S).bind fun x S1 => (b e S1).bind fun y S2 => match g S2 x y with
  | some (.bl true) => (c e S2).bind fun z S3 => opt (g' S3 y z) S3
  | some (.bl false) => .ok (.bl false) S2
  | _ => .bad
theorem useC {f f' : Value → Value → Sem Value} {r r' : R2} (h2 : ∀ (cA : Str → Addr) (B : Addr → Prop) (ι : List Addr) (S : Sto) (H : Hp) (x y : V) (a b d : D) (Q : VK), RS X.K cA B ι S H → RD X.K B ι H a x → RD X.K B ι H b y → g S a b = some d →
    (∀ v H', Same H H' → RD X.K B ι H' d v → Q v H') → r x y H Q) (h2' : ∀ (cA : Str → Addr) (B : Addr → Prop) (ι : List Addr) (S : Sto) (H : Hp) (x y : V) (a b d : D) (Q : VK), RS X.K cA B ι S H → RD X.K B ι H a x → RD X.K B ι H b y → g' S a b = some d →
    (∀ v H', Same H H' → RD X.K B ι H' d v → Q v H') → r' x y H Q) : ∀ σ H Q, tE X.K cA W (e3 g g' ma mb mc) σ H Q → tChain r r' (tE X.K cA W ma) (tE X.K cA W mb) (tE X.K cA W mc) σ H Q := fun σ H Q ⟨B, ι, e, S, re, p⟩ =>
    .of re (po_bind re p fun ι1 v1 H1 d1 S1 f1 r1 rd1 p1 => .of r1 (po_bind r1 p1 fun ι2 v2 H2 d2 S2 f2 r2 rd2 p2 => by
      split at p2
      · rename_i q
        refine h2 cA B ι2 S2 H2 v1 v2 d1 d2 _ _ r2.rs (RD.fr f2 _ _ rd1) rd2 q fun v H3 sm rd => ⟨true, rd.bl, ?_⟩
        rw [if_pos rfl]
        have r3 : Rel X.K cA B ι2 e S2 σ H3 := r2.fr (Fr.same sm) (r2.rs.same sm)
        refine .of r3 (po_bind (Q := Q) r3 (f := fun z S3 => opt (g' S3 d2 z) S3) ?_ fun ι4 v4 H4 d4 S4 f4 r4 rd4 p4 => ?_)
        · revert p2
          cases (mc e S2).bind fun z S3 => opt (g' S3 d2 z) S3 with
          | bad => exact _root_.id
          | ok d2 S2 => exact fun h ι2 v2 H2 f2 r2 d2 => h ι2 v2 H2 ((Fr.same sm).trans f2) r2 d2
          | exc c S2 => exact fun h ι2 H2 f2 r2 => h ι2 H2 ((Fr.same sm).trans f2) r2
        · obtain ⟨d, hd, q'⟩ := po_opt p4 r4.rs
          exact h2' cA B ι4 S4 H4 v2 v4 d2 d4 d _ r4.rs (RD.fr f4 _ _ (RD.fr (Fr.same sm) _ _ rd2)) rd4 hd q'
      · rename_i q
        refine h2 cA B ι2 S2 H2 v1 v2 d1 d2 _ _ r2.rs (RD.fr f2 _ _ rd1) rd2 q fun v H3 sm rd => ⟨false, rd.bl, ?_⟩
        rw [if_neg Bool.false_ne_true]
        exact p2 ι2 _ H3 (Fr.same sm) (r2.rs.same sm) RD.mk_bl
      · exact p2.elim))

theorem q_chain {op op' : CmpOp} (ho : O2 X (compareOp op) g) (ho' : O2 X (compareOp op') g') (ha : PE X a (tE X.K cA W ma)) (hb : PE X b (tE X.K cA W mb)) (hc : PE X c (tE X.K cA W mc)) (hm : lastMarks [op, op'] [b, c] = false := by with_unfolding_all rfl) :
    PE X (.Compare a [op, op'] [b, c] pos) (tE X.K cA W (e3 g g' ma mb mc)) :=
  let ⟨r, h1, h2⟩ := ho.ex; let ⟨r', h1', h2'⟩ := ho'.ex; PEi (pe_chain h1 h1' ha hb hc hm) (useC (f := compareOp op) (f' := compareOp op') h2 h2')
theorem k_chain {op op' : CmpOp} (ho : O2 X (compareOp op) g) (ho' : O2 X (compareOp op') g') (ha : PE X a (tE X.K cA W ma)) (hb : PE X b (tE X.K cA W mb)) (hc : PE X c (tE X.K cA W mc)) (hm : lastMarks [op, op'] [b, c] = false := by with_unfolding_all rfl) :
    PT X (.Compare a [op, op'] [b, c] pos) (tT X.K cA W (tOf (e3 g g' ma mb mc))) :=
  let ⟨r, h1, h2⟩ := ho.ex; let ⟨r', h1', h2'⟩ := ho'.ex; PTi (pt_chain h1 h1' ha hb hc hm) (useT (useC (f := compareOp op) (f' := compareOp op') h2 h2'))

/-! ### a cell changes -/
theorem Fr.at {a : Addr} {o : HO} (h : a ∈ ι) : Fr ι ι H (upd H a o) := ⟨⟨[], by simp, by simp⟩, fun b o' e n => by rw [upd_ne (fun z : b = a => n (by rw [z]; exact h))]; exact e⟩
theorem RS.setL (r : RS K cA B ι S H) {n : Nat} {ds ds' : List D} {a : Addr} {xs' : List V} (h : S[n]? = some (.lst ds)) (ha : ι[n]? = some a) (rd : RDs K B ι H ds' xs') : RS K cA B ι (S.set n (.lst ds')) (upd H a (.lst xs')) := by
  have hm : a ∈ ι := List.mem_of_getElem? ha
  have fr : Fr ι ι H (upd H a (.lst xs')) := Fr.at hm
  refine ⟨by rw [List.length_set]; exact r.len, r.nd, fun b z => ?_, fun i c e => ?_⟩
  · obtain ⟨h1, o, h2⟩ := r.nB b z
    exact ⟨h1, o, fr.st _ _ h2 h1⟩
  · by_cases hi : n = i
    · subst hi
      rw [List.getElem?_set_self (List.getElem?_eq_some_iff.mp h).1] at e
      cases e
      exact ⟨a, ha, xs', upd_same, RDs.fr fr _ _ rd⟩
    · rw [List.getElem?_set_ne hi] at e
      obtain ⟨b, h1, h2⟩ := r.at_ i c e
      refine ⟨b, h1, h2.fr fr (upd_ne fun z => ?_)⟩
      subst z
      obtain ⟨l1, e1⟩ := List.getElem?_eq_some_iff.mp h1
      obtain ⟨l2, e2⟩ := List.getElem?_eq_some_iff.mp ha
      rcases Nat.lt_or_gt_of_ne hi with z | z
      · exact (List.pairwise_iff_getElem.mp r.nd n i l2 l1 z) (e2.trans e1.symm)
      · exact (List.pairwise_iff_getElem.mp r.nd i n l1 l2 z) (e1.trans e2.symm)
def putI (S : Sto) (e : En) : D → D → D → RS'
  | .obj n, .int k, d => match S[n]? with
    | some (.lst ds) => match ixN ds.length k with
      | some j => .nx e (S.set n (.lst (ds.set j d)))
      | none => .bad
    | _ => .bad
  | _, _, _ => .bad
/-- o[i] = v of a list -/
def sSetI (mo mi mv : ME) : MS := fun e S => (mv e S).bindS e fun d S1 => (mo e S1).bindS e fun o S2 => (mi e S2).bindS e fun i S3 => putI S3 e o i d
theorem s_setI {o i v : Expr} {mo mi mv : ME} (h : ∀ {tv to ti : TE}, PE X v tv → PE X o to → PE X i ti → PS X st (tAsg tv (L2.gSub to ti rSetL))) (hv : PE X v (tE X.K cA W mv)) (ho : PE X o (tE X.K cA W mo)) (hi : PE X i (tE X.K cA W mi)) : PS X st (tS X.K cA W (sSetI mo mi mv)) :=
  PSi (h hv ho hi) fun D' σ H ⟨B, ι, e, S, re, p⟩ =>
    .of re (po_bindS re p fun ι1 v1 H1 d1 S1 f1 r1 rd1 p1 => .of r1 (po_bindS r1 p1 fun ι2 v2 H2 d2 S2 f2 r2 rd2 p2 => .of r2 (po_bindS r2 p2 fun ι3 v3 H3 d3 S3 f3 r3 rd3 p3 => by
      unfold putI at p3
      split at p3
      · rename_i n k
        split at p3
        · rename_i ds q
          split at p3
          · rename_i j hj
            obtain ⟨a, h1, us, h2, h3⟩ := r3.rs.at_ n _ q
            obtain ⟨a', rfl, h4⟩ := (RD.fr f3 _ _ rd2).obj
            rw [h1] at h4; cases h4
            refine ⟨a, us, k, j, rfl, rd3.int, h2, by rw [← h3.len]; exact hj, ?_⟩
            have rdd := RD.fr f3 _ _ (RD.fr f2 _ _ rd1)
            have fr : Fr ι3 ι3 H3 (upd H3 a (.lst (us.set j v1))) := Fr.at (List.mem_of_getElem? h1)
            exact p3 ι3 σ _ fr (r3.fr fr (r3.rs.setL q h1 (h3.set j rdd)))
          · exact p3.elim
        · exact p3.elim
      · exact p3.elim)))
def appI (S : Sto) : D → D → RE
  | .obj n, d => match S[n]? with
    | some (.lst ds) => if ds.length < 16777216 then .ok .non (S.set n (.lst (ds ++ [d]))) else .bad
    | _ => .bad
  | _, _ => .bad
def isL (S : Sto) : D → Bool
  | .obj n => match S[n]? with | some (.lst _) => true | _ => false
  | _ => false
/-- o.append(v) -/
def eApp (mo mv : ME) : ME := fun e S => (mo e S).bind fun o S1 => if isL S1 o = true then (mv e S1).bind fun d S2 => appI S2 o d else .bad
theorem q_app {o v : Expr} {mo mv : ME} {apos : Pos} (ho : PE X o (tE X.K cA W mo)) (hv : PE X v (tE X.K cA W mv))
    (h : ∀ {to : TE} {t : TA}, PE X o to → PA X [v] t → PE X (.Call (.Attribute o "append" apos) [v] [] pos) (tBM X.K "list" rAppend to t)) (hst : starEach [v] X.env = [(false, eval v X.env)] := by rfl) : PE X (.Call (.Attribute o "append" apos) [v] [] pos) (tE X.K cA W (eApp mo mv)) :=
  PEi (h ho (pa_cons hv pa_nil hst)) fun σ H Q ⟨B, ι, e, S, re, p⟩ =>
    .of re (po_bind re p fun ι1 v1 H1 d1 S1 f1 r1 rd1 p1 => by
      split at p1
      · rename_i hl
        unfold isL at hl
        split at hl
        · rename_i n
          split at hl
          · rename_i ds0 q0
            obtain ⟨a, h1, us0, h20, h30⟩ := r1.rs.at_ n _ q0
            obtain ⟨a', rfl, h4⟩ := rd1.obj
            rw [h1] at h4; cases h4
            refine ⟨.inl ⟨rfl, _, SqL.of h20⟩, .of r1 (po_bind r1 p1 fun ι2 v2 H2 d2 S2 f2 r2 rd2 p2 => ?_)⟩
            unfold appI at p2
            simp only at p2
            split at p2
            · rename_i ds q
              split at p2
              · rename_i hz
                obtain ⟨a2, h5, us, h6, h7⟩ := r2.rs.at_ n _ q
                rw [f2.get h1] at h5; cases h5
                refine ⟨a, us, v2, rfl, rfl, h6, by rw [sizeL, ← h7.len]; exact hz, ?_⟩
                have fr : Fr ι2 ι2 H2 (upd H2 a (.lst (us ++ [v2]))) := Fr.at (List.mem_of_getElem? (f2.get h1))
                exact p2 ι2 _ _ fr (r2.rs.setL q (f2.get h1) (h7.append (.cons rd2 .nil))) RD.mk_non
              · exact p2.elim
            · exact p2.elim
          · cases hl
        · cases hl
      · exact p1.elim)
/-- x op= e -/
def sAug (i : Nat) (g : Sto → D → D → Option D) (m : ME) : MS := fun e S => match e[i]? with
  | some (some x) => (m e S).bindS e fun y S1 => match g S1 x y with | some d => .nx (e.set i (some d)) S1 | none => .bad
  | _ => .bad
theorem s_aug {op : Operator} {i : Nat} {m : ME} (ho : O2 X (inplaceOp op) g) (h : ∀ {te : TE} {ti : TIp}, PE X a te → PIp X op ti → PS X st (tAug i te ti)) (ha : PE X a (tE X.K cA W m)) : PS X st (tS X.K cA W (sAug i g m)) := by
  obtain ⟨r, h1, h2⟩ := ho.ex
  have hp : PIp X op r := fun pins s σ H x y v u Q I rx ry q => h1 pins s σ H x y v u Q I rx ry q
  refine PSi (h ha hp) fun D' σ H ⟨B, ι, e, S, re, p⟩ => ?_
  unfold sAug at p
  split at p
  · rename_i x q
    obtain ⟨v, e1, rx⟩ := re.ev i x q
    refine ⟨v, e1, .of re (po_bindS re p fun ι1 v1 H1 d1 S1 f1 r1 rd1 p1 => ?_)⟩
    cases hg : g S1 x d1 with
    | none => rw [hg] at p1; exact p1.elim
    | some d =>
      rw [hg] at p1
      refine h2 cA B ι1 S1 H1 v v1 x d1 d _ r1.rs (RD.fr f1 _ _ rx) rd1 hg fun z H2 sm rd => p1 ι1 _ H2 (Fr.same sm) ?_
      exact (r1.fr (Fr.same sm) (r1.rs.same sm)).set rd
  · exact p.elim
def gIAdd (S : Sto) (a b : D) : Option D := match a, b with
  | .int i, .int j => some (.int (i + j))
  | .str x, .str y => if x.length + y.length ≤ 16777216 then some (.str (x ++ y)) else none
  | _, _ => none
theorem o_iadd : O2 X (inplaceOp .Add) gIAdd := o_mk (iop_add.or iop_add_str) fun cA B ι S H x y a b d Q rs ra rb hg q => by
  unfold gIAdd at hg
  split at hg
  · cases hg
    exact .inl ⟨_, _, ra.int, rb.int, q _ H same_refl RD.mk_int⟩
  · split at hg
    · rename_i hz
      cases hg
      exact .inr ⟨_, _, ra.str, rb.str, by rw [sizeL]; exact hz, q _ H same_refl RD.mk_str⟩
    · cases hg
  · cases hg
theorem o_isub : O2 X (inplaceOp .Sub) gSub := o_mk iop_sub fun cA B ι S H x y a b d Q rs ra rb hg q => by
  unfold gSub at hg
  split at hg
  · cases hg
    exact ⟨_, _, ra.int, rb.int, q _ H same_refl RD.mk_int⟩
  · cases hg
def gNeg (S : Sto) (a : D) : Option D := match a with
  | .int i => some (.int (-i))
  | _ => none
theorem q_neg (ha : PE X a (tE X.K cA W ma)) : PE X (.UnaryOp .USub a pos) (tE X.K cA W (e1 gNeg ma)) := PEi (pe_un un_neg ha) fun σ H Q ⟨B, ι, e, S, re, p⟩ =>
  .of re (po_bind re p fun ι1 v1 H1 d1 S1 f1 r1 rd1 p1 => by
    obtain ⟨d, hd, q⟩ := po_opt p1 r1.rs
    unfold gNeg at hd
    split at hd
    · cases hd
      exact ⟨_, rd1.int, q _ H1 same_refl RD.mk_int⟩
    · cases hd)

/-! ### functions by their names -/
structure FD (P : Program) (w : World) (K : PySem.W.Frag) (mg : Str → Option Value) (base : Heap) (cA : Str → Addr) (k : Nat) (x : Str) (n : Nat) (m : MF) : Prop where
  ex : ∃ (f : Addr) (fd : FuncData) (ps : List Str), FnOk P w K mg base (L2.CX P w) k f fd ps (spM K cA n m) ∧ mg x = some (.ref f) ∧ PySem.W.keepIn K (.ref f) = true ∧ Binds K fd ps []
def eCall' (n : Nat) (m : MF) (am : MA) : ME := fun e S => (am e S).bind fun ds S1 => if ds.length = n then callS m ds S1 else .bad
theorem q_call {x : Str} {k j n : Nat} {m : MF} {p : Pos} (tk : Takes X W) (F : FD X.prog X.w X.K X.mg X.base cA k x n m) (hr : Room j X.A) (hk : k ≤ j) (hg : Gl X x) (ha : PA X (a :: es) (tA X.K cA W xs))
    (hdb : (x == ("__debug__" : Str)) = false := by decide) (he : starEach (a :: es) X.env = (false, eval a X.env) :: starEach es X.env := by rfl) (hpl : (backTo pos (starEach es X.env)).any (·.1) = false := by rfl) :
    PE X (.Call (.Name x p) (a :: es) [] pos) (tE X.K cA W (eCall' n m xs)) := by
  obtain ⟨f, fd, ps, h1, h2, h3, h4⟩ := F.ex
  refine PEi (pe_callS (E := WE W) h1 (hr.mono hk) hg h2 h3 h4 (fun σ => passAt tk σ) ha hdb he hpl) fun σ H Q ⟨B, ι, e, S, re, p⟩ =>
    .of re (poA_bind re p fun ι1 vs H1 ds S1 f1 r1 rd1 p1 => ?_)
  split at p1
  · rename_i hn
    subst hn
    exact call_sub r1.rs rd1 p1
  · exact p1.elim
variable {P : Program} {w : World} {mg : Str → Option Value} {base : Heap}
theorem spM_len {n : Nat} {m : MF} {vs : List V} {Q : VK} {E : XK} (h : spM K cA n m vs H Q E) : vs.length = n := by
  obtain ⟨B, ι, ds, S, h1, h2, _⟩ := h
  rw [← h2.len, h1]
theorem fd_mk {x : Str} {sd : Stmt} {f : Addr} {fd : FuncData} {N ps : List Str} {k : Nat} {body : MS} (F : Fun K x x sd f fd) (mgf : mg x = some (.ref f)) (kp : PySem.W.keepIn K (.ref f) = true) (b : Binds K fd ps []) (sc : FnScope N ps (defScope sd))
    (hb : ∀ (cdv : Value) (A : Around) (outer : List Env) (s : Shared) (H : Hp) (E : XK), Room k (A.deeper (envOfC x (defScope sd) s.heap.objs.size f cdv)) →
      PSs (cxOf (L2.CX P w) P w K mg base N x (defScope sd) f cdv A outer s H E) (defBody sd) (tS K cA (fun c d _ H' => E c d H') body)) : FD P w K mg base cA (k + 1) x ps.length (fnK N.length body) :=
  ⟨f, fd, ps, F.okX sc (fun vs H Q E h => spM_len h) (fun cdv A outer s H vs Q E hr h => ⟨_, hb cdv A outer s H E hr, by
    obtain ⟨B, ι, ds, S, h1, h2, h3, h4⟩ := h
    exact body_ok h2 h3 h4⟩), mgf, kp, b⟩
theorem FD.imp {k n : Nat} {x : Str} {m m' : MF} (F : FD P w K mg base cA k x n m) (h : ∀ B ι ds S H Q E, RS K cA B ι S H → PoF K cA B (m' ds S) ι H Q E → PoF K cA B (m ds S) ι H Q E) : FD P w K mg base cA k x n m' := by
  obtain ⟨f, fd, ps, h1, h2⟩ := F.ex
  exact ⟨f, fd, ps, h1.imp fun vs H Q E ⟨B, ι, ds, S, h3, h4, h5, h6⟩ => ⟨B, ι, ds, S, h3, h4, h5, h _ _ _ _ _ _ _ h5 h6⟩, h2⟩
theorem FD.drop {k n N : Nat} {x : Str} {body : MS} (F : FD P w K mg base cA k x n (fnK N body)) : FD P w K mg base cA k x n (fnD N body) := F.imp fun _ _ _ _ _ _ _ r h => h.drop r.len.symm
theorem FD.mono {k j n : Nat} {x : Str} {m : MF} (F : FD P w K mg base cA k x n m) (h : k ≤ j) : FD P w K mg base cA j x n m := by
  obtain ⟨f, fd, ps, h1, h2⟩ := F.ex
  exact ⟨f, fd, ps, h1.mono h, h2⟩
theorem FD.eq {k n : Nat} {x : Str} {m m' : MF} (F : FD P w K mg base cA k x n m) (h : ∀ ds S, m' ds S = m ds S) : FD P w K mg base cA k x n m' := F.imp fun _ _ ds S _ _ _ _ z => by rw [← h ds S]; exact z

/-- the law: a list of at most 63 numbers, True comes out -/
def spLaw (K : PySem.W.Frag) (n : Nat) : Sp := fun vs H Q _ => ∃ (a : Addr) (ns : List Int), vs = [.ref a] ∧ SqL K H a (ns.map V.int) ∧ ns.length ≤ n ∧ ∀ H', Q (.bl true) H'
theorem RDs.int : ∀ (ns : List Int), RDs K B ι H (ns.map D.int) (ns.map V.int)
  | [] => .nil
  | _ :: r => .cons RD.mk_int (RDs.int r)
theorem law_mk {n : Nat} {sd : Stmt} {f : Addr} {fd : FuncData} {N : List Str} {k : Nat} {body : MS} (F : Fun K "law" "law" sd f fd) (sc : FnScope N ["script"] (defScope sd))
    (hb : ∀ (cdv : Value) (A : Around) (outer : List Env) (s : Shared) (H : Hp) (E : XK), Room k (A.deeper (envOfC "law" (defScope sd) s.heap.objs.size f cdv)) →
      PSs (cxOf CX0 P w K mg base N "law" (defScope sd) f cdv A outer s H E).nox (defBody sd) (tS K cA WF body)) (hm : ∀ ns : List Int, ns.length ≤ n → ∃ S, fnK N.length body [.scr (ns.map D.int)] [] = .ok (.bl true) S) : FnOk P w K mg base CX0 (k + 1) f fd ["script"] (spLaw K n) := by
  refine F.ok sc (fun vs H Q E h => ?_) (fun cdv A outer s H vs Q E hr h => ⟨_, hb cdv A outer s H E hr, ?_⟩)
  · obtain ⟨a, ns, rfl, _⟩ := h
    rfl
  · obtain ⟨a, ns, rfl, hS, hl, q⟩ := h
    obtain ⟨S, e⟩ := hm ns hl
    have rs : RS K cA (fun _ => False) [] [] H := ⟨rfl, .nil, fun _ z => z.elim, fun i c z => by simp at z⟩
    have rd : RD K (fun _ => False) [] H (.scr (ns.map D.int)) (.ref a) := by
      rw [RD]
      exact ⟨a, ns.map V.int, rfl, hS.imp (fun z => ⟨by simp, fun z => z, z⟩) _root_.id, RDs.int ns⟩
    have r := rel_start (N := N) (.cons rd .nil) rs
    refine .of r ?_
    unfold fnK at e
    cases q2 : body ([D.scr (ns.map D.int)].map some ++ List.replicate (N.length - [D.scr (ns.map D.int)].length) none) [] with
    | bad => rw [q2] at e; cases e
    | brk _ _ => rw [q2] at e; cases e
    | cont _ _ => rw [q2] at e; cases e
    | exc _ _ _ => rw [q2] at e; cases e
    | nx _ _ => rw [q2] at e; cases e
    | ret d S' =>
      rw [q2] at e
      cases e
      exact fun ι' v H' fr r rd => by rw [rd.bl]; exact q H'
end
end DL

/-! The data layer: cells that a turn of a loop has made are forgotten. -/
namespace DL
open PySem PySem.Spec PyProof.Rows L2
def lowE (k : Nat) (e : En) : Bool := e.all fun o => match o with | some d => low k d | none => true
def gcS (kill : List Nat) (k : Nat) : RS' → RS'
  | .nx e S => if (lowE k (wipeE e kill) && (S.take k).all (lowC k)) = true then .nx (wipeE e kill) (S.take k) else .bad
  | .cont e S => if (lowE k (wipeE e kill) && (S.take k).all (lowC k)) = true then .cont (wipeE e kill) (S.take k) else .bad
  | r => r
def sGC (kill : List Nat) (body : MS) : MS := fun e S => gcS kill S.length (body e S)
section
variable {X : Cx} {K : PySem.W.Frag} {cA : Str → Addr} {W : WX} {B : Addr → Prop} {ι ι' : List Addr} {S : Sto} {H H' : Hp} {σ : L2.St} {e : En} {sts : List Stmt} {body : MS} {kill : List Nat}
theorem wipeE_get {i : Nat} {d : D} : ∀ {kill : List Nat}, (wipeE e kill)[i]? = some (some d) → e[i]? = some (some d)
  | [], h => h
  | v :: vs, h => by
    unfold wipeE at h
    by_cases hj : v = i
    · subst hj
      by_cases hi : v < (wipeE e vs).length
      · rw [List.getElem?_set_self hi] at h; cases h
      · rw [List.getElem?_eq_none (by rw [List.length_set]; omega)] at h; cases h
    · rw [List.getElem?_set_ne hj] at h
      exact wipeE_get h
theorem wipeE_len : ∀ kill : List Nat, (wipeE e kill).length = e.length
  | [] => rfl
  | v :: vs => by unfold wipeE; rw [List.length_set, wipeE_len vs]
theorem Rel.gc {k : Nat} (r : Rel K cA B ι e S σ H) (h1 : lowE k (wipeE e kill) = true) (h2 : (S.take k).all (lowC k) = true) : Rel K cA B (ι.take k) (wipeE e kill) (S.take k) σ H :=
  ⟨r.rs.cut h2, by rw [wipeE_len]; exact r.len, fun i d h => by
    obtain ⟨v, h3, h4⟩ := r.ev i d (wipeE_get h)
    have := List.all_eq_true.mp h1 _ (List.mem_of_getElem? h)
    exact ⟨v, h3, RD.cut _ _ this h4⟩⟩
theorem z_gc (h : PSs X sts (tS X.K cA W body)) : PSs X sts (tS X.K cA W (sGC kill body)) := PSsi h fun D' σ H ⟨B, ι, e, S, re, p⟩ => .of re (by
  unfold sGC at p
  cases q : body e S with
  | nx e' S' =>
    rw [q] at p
    simp only [gcS] at p
    split at p
    · rename_i hc
      rw [Bool.and_eq_true, ← re.rs.len] at hc
      rw [← re.rs.len] at p
      exact fun ι' σ' H' f r => p _ σ' H' f.cut (r.gc hc.1 hc.2)
    · exact p.elim
  | cont e' S' =>
    rw [q] at p
    simp only [gcS] at p
    split at p
    · rename_i hc
      rw [Bool.and_eq_true, ← re.rs.len] at hc
      rw [← re.rs.len] at p
      exact fun ι' σ' H' f r => p _ σ' H' f.cut (r.gc hc.1 hc.2)
    · exact p.elim
  | bad => rw [q] at p; exact p
  | ret d S' => rw [q] at p; exact p
  | brk e' S' => rw [q] at p; exact p
  | exc c e' S' => rw [q] at p; exact p)
end
end DL

/-! The data layer: how what a def does is reckoned. -/
namespace DL
open PySem PySem.Spec PyProof.Rows L2
section
variable {d : D} {ds : List D} {S : Sto} {c : Str} {b : Bool} {e : En} {i n : Nat}
@[simp] theorem RE.bind_ok {f : D → Sto → RE} : (RE.ok d S).bind f = f d S := rfl
@[simp] theorem RE.bind_exc {f : D → Sto → RE} : (RE.exc c S).bind f = .exc c S := rfl
@[simp] theorem RE.bindA_ok {f : D → Sto → RA} : (RE.ok d S).bindA f = f d S := rfl
@[simp] theorem RE.bindA_exc {f : D → Sto → RA} : (RE.exc c S).bindA f = .exc c S := rfl
@[simp] theorem RE.bindB_ok {f : D → Sto → RB} : (RE.ok d S).bindB f = f d S := rfl
@[simp] theorem RE.bindB_exc {f : D → Sto → RB} : (RE.exc c S).bindB f = .exc c S := rfl
@[simp] theorem RE.bindS_ok {f : D → Sto → RS'} : (RE.ok d S).bindS e f = f d S := rfl
@[simp] theorem RE.bindS_exc {f : D → Sto → RS'} : (RE.exc c S).bindS e f = .exc c e S := rfl
@[simp] theorem RA.bind_ok {f : List D → Sto → RE} : (RA.ok ds S).bind f = f ds S := rfl
@[simp] theorem RA.bind_exc {f : List D → Sto → RE} : (RA.exc c S).bind f = .exc c S := rfl
@[simp] theorem RA.bindA_ok {f : List D → Sto → RA} : (RA.ok ds S).bindA f = f ds S := rfl
@[simp] theorem RA.bindA_exc {f : List D → Sto → RA} : (RA.exc c S).bindA f = .exc c S := rfl
@[simp] theorem RB.bind_ok {f : Bool → Sto → RE} : (RB.ok b S).bind f = f b S := rfl
@[simp] theorem RB.bind_exc {f : Bool → Sto → RE} : (RB.exc c S).bind f = .exc c S := rfl
@[simp] theorem RB.bindB_ok {f : Bool → Sto → RB} : (RB.ok b S).bindB f = f b S := rfl
@[simp] theorem RB.bindB_exc {f : Bool → Sto → RB} : (RB.exc c S).bindB f = .exc c S := rfl
@[simp] theorem RB.bindS_ok {f : Bool → Sto → RS'} : (RB.ok b S).bindS e f = f b S := rfl
@[simp] theorem RB.bindS_exc {f : Bool → Sto → RS'} : (RB.exc c S).bindS e f = .exc c e S := rfl
@[simp] theorem RS'.bind_nx {f : En → Sto → RS'} : (RS'.nx e S).bind f = f e S := rfl
@[simp] theorem RS'.bind_ret {f : En → Sto → RS'} : (RS'.ret d S).bind f = .ret d S := rfl
@[simp] theorem RS'.bind_exc {f : En → Sto → RS'} : (RS'.exc c e S).bind f = .exc c e S := rfl
@[simp] theorem RS'.bind_brk {f : En → Sto → RS'} : (RS'.brk e S).bind f = .brk e S := rfl
@[simp] theorem RS'.bind_cont {f : En → Sto → RS'} : (RS'.cont e S).bind f = .cont e S := rfl
@[simp] theorem opt_some : opt (some d) S = .ok d S := rfl
@[simp] theorem view_int {i : Int} : view S (.int i) = .int i := rfl
@[simp] theorem view_str {i : Str} : view S (.str i) = .str i := rfl
@[simp] theorem view_bl {i : Bool} : view S (.bl i) = .bl i := rfl
@[simp] theorem view_non : view S .non = .non := rfl
@[simp] theorem view_tup : view S (.tup ds) = .tup ds := rfl
@[simp] theorem view_lst : view S (.lst ds) = .lst ds := rfl
@[simp] theorem view_scr : view S (.scr ds) = .lst ds := rfl
@[simp] theorem view_dct {ks : List Key} : view S (.dct ks ds) = .dct ks ds := rfl

variable {a b' c' : ME} {g g' : Sto → D → D → Option D} {h : Sto → D → Option D} {gl : Sto → List D → Option D} {ma mr : MA} {t u : MB} {sa sb : MS} {m : MF} {tg : MTg} {x y : D}
@[simp] theorem eV_ap : eV i e S = match e[i]? with | some (some d) => .ok d S | _ => .bad := rfl
@[simp] theorem eC_ap : eC d e S = .ok d S := rfl
@[simp] theorem e2_ap : e2 g a b' e S = (a e S).bind fun x S1 => (b' e S1).bind fun y S2 => opt (g S2 x y) S2 := rfl
@[simp] theorem e1_ap : e1 h a e S = (a e S).bind fun x S1 => opt (h S1 x) S1 := rfl
@[simp] theorem e3_ap : e3 g g' a b' c' e S = (a e S).bind fun x S1 => (b' e S1).bind fun y S2 => match g S2 x y with
  | some (.bl true) => (c' e S2).bind fun z S3 => opt (g' S3 y z) S3
  | some (.bl false) => .ok (.bl false) S2
  | _ => .bad := rfl
@[simp] theorem tOf_ap : tOf a e S = (a e S).bindB fun x S1 => match x with | .bl b => .ok b S1 | _ => .bad := rfl
@[simp] theorem tNo_ap : tNo t e S = (t e S).bindB fun b S1 => .ok (!b) S1 := rfl
@[simp] theorem tAn_ap : tAn t u e S = (t e S).bindB fun x S1 => if x = true then u e S1 else .ok false S1 := rfl
@[simp] theorem tO_ap : tO t u e S = (t e S).bindB fun x S1 => if x = true then .ok true S1 else u e S1 := rfl
@[simp] theorem tYs_ap : tYs e S = .ok true S := rfl
@[simp] theorem eIf_ap : eIf t a b' e S = (t e S).bind fun x S1 => if x = true then a e S1 else b' e S1 := rfl
@[simp] theorem eNo_ap : eNo a e S = (a e S).bind fun x S1 => match x with | .bl b => .ok (.bl (!b)) S1 | _ => .bad := rfl
@[simp] theorem eAn_ap : eAn a b' e S = (a e S).bind fun x S1 => match x with | .bl true => b' e S1 | .bl false => .ok (.bl false) S1 | _ => .bad := rfl
@[simp] theorem eO_ap : eO a b' e S = (a e S).bind fun x S1 => match x with | .bl false => b' e S1 | .bl true => .ok (.bl true) S1 | _ => .bad := rfl
@[simp] theorem aN_ap : aN e S = .ok [] S := rfl
@[simp] theorem aC_ap : aC a mr e S = (a e S).bindA fun x S1 => (mr e S1).bindA fun xs S2 => .ok (x :: xs) S2 := rfl
@[simp] theorem eTup_ap : eTup ma e S = (ma e S).bind fun xs S1 => if xs.length ≤ 16777216 then .ok (.tup xs) S1 else .bad := rfl
@[simp] theorem eLst_ap : eLst ma e S = (ma e S).bind fun xs S1 => if xs.length ≤ 16777216 then .ok (.lst xs) S1 else .bad := rfl
@[simp] theorem eNew_ap : eNew ma e S = (ma e S).bind fun xs S1 => if xs.length ≤ 16777216 then .ok (.obj S1.length) (S1 ++ [.lst xs]) else .bad := rfl
@[simp] theorem eB_ap : eB gl ma e S = (ma e S).bind fun xs S1 => opt (gl S1 xs) S1 := rfl
@[simp] theorem eSl2_ap : eSl2 a b' c' e S = (a e S).bind fun x S1 => (b' e S1).bind fun i S2 => if isPart i = true then (c' e S2).bind fun j S3 => if isPart j = true then opt (gSl (part i) (part j) S3 x) S3 else .bad else .bad := rfl
@[simp] theorem eSlL_ap : eSlL a b' e S = (a e S).bind fun x S1 => (b' e S1).bind fun i S2 => if isPart i = true then opt (gSl (part i) none S2 x) S2 else .bad := rfl
@[simp] theorem eSlH_ap : eSlH a b' e S = (a e S).bind fun x S1 => (b' e S1).bind fun j S2 => if isPart j = true then opt (gSl none (part j) S2 x) S2 else .bad := rfl
@[simp] theorem isPart_int {i : Int} : isPart (.int i) = true := rfl
@[simp] theorem part_int' {i : Int} : part (.int i) = some i := rfl
@[simp] theorem sPass_ap : sPass e S = .nx e S := rfl
@[simp] theorem sSeq_ap : sSeq sa sb e S = (sa e S).bind sb := rfl
@[simp] theorem sSet_ap : sSet i a e S = (a e S).bindS e fun d S1 => .nx (e.set i (some d)) S1 := rfl
@[simp] theorem sEx_ap : sEx a e S = (a e S).bindS e fun _ S1 => .nx e S1 := rfl
@[simp] theorem sRet_ap : sRet a e S = (a e S).bindS e fun d S1 => .ret d S1 := rfl
@[simp] theorem sRetN_ap : sRetN e S = .ret .non S := rfl
@[simp] theorem sIf_ap : sIf t sa sb e S = (t e S).bindS e fun x S1 => if x = true then sa e S1 else sb e S1 := rfl
@[simp] theorem sBrk_ap : sBrk e S = .brk e S := rfl
@[simp] theorem sCont_ap : sCont e S = .cont e S := rfl
@[simp] theorem sAsg_ap : sAsg tg a e S = (a e S).bindS e fun d S1 => match tg d e with | some e' => .nx e' S1 | none => .bad := rfl
@[simp] theorem sSetI_ap : sSetI a b' c' e S = (c' e S).bindS e fun d S1 => (a e S1).bindS e fun o S2 => (b' e S2).bindS e fun i S3 => putI S3 e o i d := rfl
@[simp] theorem eApp_ap : eApp a b' e S = (a e S).bind fun o S1 => if isL S1 o = true then (b' e S1).bind fun d S2 => appI S2 o d else .bad := rfl
@[simp] theorem sAug_ap : sAug i g a e S = match e[i]? with
  | some (some x) => (a e S).bindS e fun y S1 => match g S1 x y with | some d => .nx (e.set i (some d)) S1 | none => .bad
  | _ => .bad := rfl
@[simp] theorem eCall_ap {k : Nat} : eCall' k m ma e S = (ma e S).bind fun ds S1 => if ds.length = k then callS m ds S1 else .bad := rfl
@[simp] theorem mNm_ap : mNm i d e = some (e.set i (some d)) := rfl
@[simp] theorem fnK_ap {k : Nat} : fnK k sa ds S = match sa (ds.map some ++ List.replicate (k - ds.length) none) S with
  | .nx _ S' => .ok .non S'
  | .ret d S' => .ok d S'
  | .exc c _ S' => .exc c S'
  | _ => .bad := rfl
theorem fnD_ap {k : Nat} : fnD k sa ds S = match fnK k sa ds S with
  | .ok d S' => if low S.length (still S.length S' d) = true ∧ (S'.take S.length).all (lowC S.length) = true then .ok (still S.length S' d) (S'.take S.length) else .bad
  | .exc c S' => if (S'.take S.length).all (lowC S.length) = true then .exc c (S'.take S.length) else .bad
  | .bad => .bad := rfl
@[simp] theorem gIx_lst {i : Int} : gIx S (.lst ds) (.int i) = atI ds i := rfl
@[simp] theorem gIx_tup {i : Int} : gIx S (.tup ds) (.int i) = atI ds i := rfl
@[simp] theorem atI0 {α : Type} {z : α} {zs : List α} : atI (z :: zs) 0 = some z := atI_nat (j := 0) rfl
@[simp] theorem atI1 {α : Type} {z z' : α} {zs : List α} : atI (z :: z' :: zs) 1 = some z' := atI_nat (j := 1) rfl
@[simp] theorem atI2 {α : Type} {z z' z2 : α} {zs : List α} : atI (z :: z' :: z2 :: zs) 2 = some z2 := atI_nat (j := 2) rfl
@[simp] theorem gAdd_int {i j : Int} : gAdd S (.int i) (.int j) = some (.int (i + j)) := rfl
@[simp] theorem gSub_int {i j : Int} : gSub S (.int i) (.int j) = some (.int (i - j)) := rfl
theorem gAdd_str {i j : Str} (h : i.length + j.length ≤ 16777216) : gAdd S (.str i) (.str j) = some (.str (i ++ j)) := by simp [gAdd, h]
theorem gMul_int {i j : Int} (h : (-18446744073709551616 < i ∧ i < 18446744073709551616) ∨ (-18446744073709551616 < j ∧ j < 18446744073709551616)) : gMul S (.int i) (.int j) = some (.int (i * j)) := by simp only [gMul, view_int]; rw [if_pos (by simpa using h)]
theorem gMod_int {i j : Int} (h : 0 < j) : gMod S (.int i) (.int j) = some (.int (i % j)) := by simp [gMod, h]
theorem gFdiv_int {i j : Int} (h : 0 < j) (h2 : j < 1073741824) : gFdiv S (.int i) (.int j) = some (.int (i / j)) := by simp [gFdiv, h, h2]
@[simp] theorem gI_int {p : Int → Int → Bool} {i j : Int} : gI p S (.int i) (.int j) = some (.bl (p i j)) := rfl
@[simp] theorem iGt_ap {i j : Int} : iGt i j = decide (j < i) := rfl
@[simp] theorem iGe_ap {i j : Int} : iGe i j = decide (j ≤ i) := rfl
@[simp] theorem gLt_int {i j : Int} : gLt S (.int i) (.int j) = some (.bl (decide (i < j))) := rfl
@[simp] theorem gLe_int {i j : Int} : gLe S (.int i) (.int j) = some (.bl (decide (i ≤ j))) := rfl
@[simp] theorem deq_int {i j : Int} : deq (.int i) (.int j) = some (decide (i = j)) := by simp [deq, fla, scal]
@[simp] theorem deq_bl {i j : Bool} : deq (.bl i) (.bl j) = some (decide (i = j)) := by simp [deq, fla, scal]
@[simp] theorem deq_str {i j : Str} : deq (.str i) (.str j) = some (decide (i = j)) := by simp [deq, fla, scal]
@[simp] theorem gEq_int {i j : Int} : gEq S (.int i) (.int j) = some (.bl (decide (i = j))) := by simp [gEq]
@[simp] theorem gNe_int {i j : Int} : gNe S (.int i) (.int j) = some (.bl (!decide (i = j))) := by simp [gNe]
@[simp] theorem gEq_bl {i j : Bool} : gEq S (.bl i) (.bl j) = some (.bl (decide (i = j))) := by simp [gEq]
@[simp] theorem gNe_bl {i j : Bool} : gNe S (.bl i) (.bl j) = some (.bl (!decide (i = j))) := by simp [gNe]
@[simp] theorem gEq_str {i j : Str} : gEq S (.str i) (.str j) = some (.bl (decide (i = j))) := by simp [gEq]
@[simp] theorem gNe_str {i j : Str} : gNe S (.str i) (.str j) = some (.bl (!decide (i = j))) := by simp [gNe]
@[simp] theorem low_int {i : Int} {k : Nat} : low k (.int i) = true := rfl
@[simp] theorem low_str {i : Str} {k : Nat} : low k (.str i) = true := rfl
@[simp] theorem low_bl {i : Bool} {k : Nat} : low k (.bl i) = true := rfl
@[simp] theorem low_non {k : Nat} : low k .non = true := rfl
@[simp] theorem low_obj {i k : Nat} : low k (.obj i) = decide (i < k) := rfl
@[simp] theorem low_tup {k : Nat} : low k (.tup ds) = lows k ds := rfl
@[simp] theorem low_lst {k : Nat} : low k (.lst ds) = lows k ds := rfl
@[simp] theorem low_scr {k : Nat} : low k (.scr ds) = lows k ds := rfl
@[simp] theorem lows_nil {k : Nat} : lows k [] = true := rfl
@[simp] theorem lows_cons {k : Nat} : lows k (d :: ds) = (low k d && lows k ds) := rfl
@[simp] theorem cl_int {i : Int} : cl (.int i) = true := rfl
@[simp] theorem cl_str {i : Str} : cl (.str i) = true := rfl
@[simp] theorem cl_bl {i : Bool} : cl (.bl i) = true := rfl
@[simp] theorem cl_non : cl .non = true := rfl
@[simp] theorem cl_tup : cl (.tup ds) = cls ds := rfl
@[simp] theorem cl_lst : cl (.lst ds) = cls ds := rfl
@[simp] theorem cl_scr : cl (.scr ds) = cls ds := rfl
@[simp] theorem cl_obj : cl (.obj n) = false := rfl
@[simp] theorem cls_nil : cls [] = true := rfl
@[simp] theorem cls_cons : cls (d :: ds) = (cl d && cls ds) := rfl
@[simp] theorem still_int {i : Int} {k : Nat} : still k S (.int i) = .int i := rfl
@[simp] theorem still_str {i : Str} {k : Nat} : still k S (.str i) = .str i := rfl
@[simp] theorem still_bl {i : Bool} {k : Nat} : still k S (.bl i) = .bl i := rfl
@[simp] theorem still_non {k : Nat} : still k S .non = .non := rfl
@[simp] theorem still_tup {k : Nat} : still k S (.tup ds) = .tup ds := rfl
@[simp] theorem still_lst {k : Nat} : still k S (.lst ds) = .lst ds := rfl
@[simp] theorem lowC_lst {k : Nat} : lowC k (.lst ds) = lows k ds := rfl

theorem forD_inv {C : Sto → Prop} {tg : MTg} {body : MS} (P : Nat → En → Sto → Prop) : ∀ (ds : List D) (k : Nat) (e : En) (S : Sto), (∀ i d e S, ds[i]? = some d → P (k + i) e S → C S ∧ ∃ e1, tg d e = some e1 ∧ ∃ e2 S2, (body e1 S = .nx e2 S2 ∨ body e1 S = .cont e2 S2) ∧ P (k + i + 1) e2 S2) →
    (∀ e S, P (k + ds.length) e S → C S) → P k e S → ∃ e' S', forD C tg body ds e S = .nx e' S' ∧ P (k + ds.length) e' S'
  | [], k, e, S, _, hd, p => by
    unfold forD
    rw [if_pos (hd e S p)]
    exact ⟨e, S, rfl, p⟩
  | d :: ds, k, e, S, h, hd, p => by
    obtain ⟨hC, e1, h1, e2, S2, h2, p2⟩ := h 0 d e S rfl p
    unfold forD
    rw [if_pos hC, h1]
    have ih := forD_inv P ds (k + 1) e2 S2 (fun i d' e' S' hi p' => by
      have := h (i + 1) d' e' S' (by simpa using hi) (by rw [show k + (i + 1) = k + 1 + i by omega]; exact p')
      rw [show k + (i + 1) + 1 = k + 1 + i + 1 by omega] at this
      exact this) (fun e' S' p' => hd e' S' (by rw [show k + (d :: ds).length = k + 1 + ds.length by simp; omega]; exact p')) p2
    rw [show k + (d :: ds).length = k + 1 + ds.length by simp; omega]
    simp only
    rcases h2 with h2 | h2
    · rw [h2]; exact ih
    · rw [h2]; exact ih
theorem lcD_map {C : Sto → Prop} {tg : MTg} {el : ME} {e0 : En} {f : D → D} (hC : C S) : ∀ (ds acc : List D), (∀ d ∈ ds, ∃ e1, tg d e0 = some e1 ∧ el e1 S = .ok (f d) S) → acc.length + ds.length ≤ 16777216 → lcD C tg tYs el e0 ds acc S = .ok (.lst (acc ++ ds.map f)) S
  | [], acc, _, _ => by
    unfold lcD
    rw [if_pos hC]; simp
  | d :: ds, acc, h, hl => by
    obtain ⟨e1, h1, h2⟩ := h d List.mem_cons_self
    rw [List.length_cons] at hl
    unfold lcD
    rw [if_pos hC, h1]
    simp only [tYs_ap, h2]
    rw [if_pos (by omega), lcD_map hC ds (acc ++ [f d]) (fun d' hd => h d' (List.mem_cons_of_mem _ hd)) (by rw [List.length_append]; simp; omega)]
    simp
theorem sin_one {k : Nat} {y : Str} : sin ⟨#[k]⟩ y = decide (k ∈ y.cps.toList) := rfl
@[simp] theorem bls_map {α : Type} {f : α → Bool} : ∀ l : List α, bls (l.map fun z => D.bl (f z)) = some (l.map f)
  | [] => rfl
  | z :: l => by rw [List.map_cons, bls, bls_map l]; rfl
@[simp] theorem gLb_lst {f : List Bool → Bool} : gLb f S [.lst ds] = (bls ds).map fun bs => .bl (f bs) := rfl
@[simp] theorem gLen_tup : gLen S [.tup ds] = some (.int ds.length) := rfl
@[simp] theorem gLen_lst : gLen S [.lst ds] = some (.int ds.length) := rfl
@[simp] theorem gLen_scr : gLen S [.scr ds] = some (.int ds.length) := rfl
theorem gLen_str {z : Str} (h : z.length ≤ 16777216) : gLen S [.str z] = some (.int z.length) := by simp [gLen, h]
theorem gIx_str {z : Str} {i : Int} (h : z.length ≤ 16777216) : gIx S (.str z) (.int i) = (atI z.cps.toList i).map fun c => .str ⟨#[c]⟩ := by simp [gIx, h]
@[simp] theorem gIn_str {y z : Str} : gIn S (.str y) (.str z) = some (.bl (sin y z)) := rfl
@[simp] theorem gNin_str {y z : Str} : gNin S (.str y) (.str z) = some (.bl (!sin y z)) := rfl
@[simp] theorem items_str {z : Str} : items S (.str z) = some (signs z) := rfl
@[simp] theorem items_lst : items S (.lst ds) = some ds := rfl
@[simp] theorem items_tup : items S (.tup ds) = some ds := rfl
@[simp] theorem items_scr : items S (.scr ds) = some ds := rfl
theorem eLc_ap {it el : ME} {own : List Nat} : eLc it tg t el own e S = (it e S).bind fun d S1 => match items S1 d with
  | some ds => lcD (fun S' => view S' d = view S1 d) tg t el (wipeE e own) ds [] S1
  | none => .bad := rfl
theorem sFor_ap {it : ME} : sFor it tg sa e S = (it e S).bindS e fun d S1 => match items S1 d with
  | some ds => forD (fun S' => view S' d = view S1 d) tg sa ds e S1
  | none => .bad := rfl
theorem sForR_ap {it : ME} : sForR it tg sa e S = (it e S).bindS e fun d S1 => match d with
  | .int n => if -(2 ^ 62) ≤ n ∧ n < 2 ^ 62 then forD (fun _ => True) tg sa (rng 0 n.toNat) e S1 else .bad
  | _ => .bad := rfl
theorem sGC_ap {kill : List Nat} : sGC kill sa e S = gcS kill S.length (sa e S) := rfl
/-- a call without cells -/
theorem call_none {m : MF} (h : ds.all cl = true) : callS m ds S = match m ds [] with | .ok d S2 => if (flatO d && S2.all okC) = true then .ok (mapO (outN [] S.length) d) (back [] S S2) else .bad | .exc c S2 => if S2.all okC = true then .exc c (back [] S S2) else .bad | .bad => .bad := by
  have h1 : tops ds = [] := by
    unfold tops
    rw [List.filterMap_eq_nil_iff]
    intro d hd
    have := List.all_eq_true.mp h d hd
    cases d <;> first | rfl | cases this
  have h2 : ds.all flatO = true := List.all_eq_true.mpr fun d hd => by
    have := List.all_eq_true.mp h d hd
    cases d <;> first | exact this | cases this
  have h3 : ds.all (inj1 []) = true := List.all_eq_true.mpr fun d hd => by
    have := List.all_eq_true.mp h d hd
    cases d <;> first | rfl | cases this
  have h4 : ds.map (mapO ([] : List Nat).idxOf) = ds := by
    conv => rhs; rw [← List.map_id ds]
    refine List.map_congr_left fun d hd => ?_
    have := List.all_eq_true.mp h d hd
    cases d <;> first | rfl | cases this
  unfold callS callJ
  rw [h1]
  simp only [clo, h2, h3, h4, List.all_nil, List.map_nil, List.nodup_nil, decide_true, Bool.and_self, if_true]
  first | done | rfl
@[simp] theorem back_nil : back [] S [] = S := by
  unfold back
  simp
  exact List.ext_getElem? fun i => by simp

theorem eLc_of {it el : ME} {own : List Nat} {S1 : Sto} {f : D → D} (h : it e S = .ok d S1) (hi : items S1 d = some ds) (hf : ∀ z ∈ ds, ∃ e1, tg z (wipeE e own) = some e1 ∧ el e1 S1 = .ok (f z) S1) (hl : ds.length ≤ 16777216) : eLc it tg tYs el own e S = .ok (.lst (ds.map f)) S1 := by
  rw [eLc_ap, h, RE.bind_ok, hi]
  simp only
  rw [lcD_map (C := fun S' => view S' d = view S1 d) rfl ds [] hf (by simpa using hl)]
  simp
theorem eLc_signs {it el : ME} {own : List Nat} {S1 : Sto} {t : Str} {f : Nat → D} (h : it e S = .ok (.str t) S1) (hf : ∀ k ∈ t.cps.toList, el ((wipeE e own).set i (some (.str ⟨#[k]⟩))) S1 = .ok (f k) S1) (hl : t.length ≤ 16777216) : eLc it (mNm i) tYs el own e S = .ok (.lst (t.cps.toList.map f)) S1 := by
  rw [eLc_of (f := fun z => match z with | .str x => f (x.cps.getD 0 0) | z => z) h (items_str) (fun z hz => ?_) (by simpa [signs, Str.length] using hl)]
  · simp [signs, Function.comp_def]
  · simp only [signs, List.mem_map] at hz
    obtain ⟨k, hk, rfl⟩ := hz
    exact ⟨_, rfl, by simpa using hf k hk⟩
theorem gIx_sign {t : Str} {k : Nat} {r : List Nat} (h : t.length ≤ 16777216) (e : t.cps.toList = k :: r) : gIx S (.str t) (.int 0) = some (.str ⟨#[k]⟩) := by
  rw [gIx_str h, e, atI0]; rfl
theorem str_len (t : Str) : t.length = t.cps.toList.length := by simp [Str.length]
@[simp] theorem app_len (x y : Str) : (x ++ y).length = x.length + y.length := by
  show (x.cps ++ y.cps).size = _
  rw [Array.size_append]; rfl
@[simp] theorem sign_len (k : Nat) : (Str.mk #[k]).length = 1 := rfl
@[simp] theorem rng_len (lo : Int) (n : Nat) : (rng lo n).length = n := by simp [rng]
theorem gSl_str {lo hi : Option Int} {z : Str} (h : z.length ≤ 16777216) : gSl lo hi S (.str z) = some (.str (cutS z lo hi)) := by simp [gSl, h]
@[simp] theorem lows_ints {k : Nat} : ∀ ns : List Int, lows k (ns.map D.int) = true
  | [] => rfl
  | _ :: r => by rw [List.map_cons, lows_cons, lows_ints r]; rfl
@[simp] theorem cls_ints : ∀ ns : List Int, cls (ns.map D.int) = true
  | [] => rfl
  | _ :: r => by rw [List.map_cons, cls_cons, cls_ints r]; rfl
@[simp] theorem lowE_nil {k : Nat} : lowE k [] = true := rfl
@[simp] theorem lowE_some {k : Nat} : lowE k (some d :: e) = (low k d && lowE k e) := rfl
@[simp] theorem lowE_none {k : Nat} : lowE k (none :: e) = lowE k e := by simp [lowE]
theorem gMul_str {z : Str} {k : Int} (h : k < 2147483648 ∧ -2147483648 < k ∧ k.toNat * z.length ≤ 16777216) : gMul S (.str z) (.int k) = some (.str (srep z k.toNat)) := by
  simp only [gMul, view_str, view_int]
  rw [if_pos (by simpa using h)]
end
end DL

/-! max(numbers, default=d) -/
namespace DL
open PySem PySem.Spec PyProof.Rows L2
section
variable {prog : Program} {w : World} {A : Around} {R : Result → Shared → Prop} {I S : Addr} {fp wr : List Addr} {n : Nat} {P : Nat → Value → Prop} {St : Nat → Heap → Prop} {bt : Nat → Nat → Bool} {nm : Str} {d : Value}
/-- what has been seen so far: nothing, or the best of the first ones -/
def Seen (P : Nat → Value → Prop) (bt : Nat → Nat → Bool) (j : Nat) (vals : Array Value) : Prop := (j = 0 ∧ vals = #[]) ∨ ∃ i vb, j = i + 1 ∧ vals = #[vb, vb] ∧ P (argBest bt i) vb
theorem loop_name : (toString "max" ++ toString ".loop" : String) = "max.loop" := by decide
theorem mx_turns (wk : Walks prog w A.in1 I fp wr n P St) (cmp : CmpOf prog w A.in1 .Gt P bt) (out : S ∉ fp) (m : Nat) : ∀ (j : Nat) (s : Shared) (vals : Array Value) (c : Nat), n = j + m → St j s.heap → Seen P bt j vals →
    s.heap.get? S = some { cls := .type "list", dict := none, data := .seq vals c, slots := #[] } →
    (∀ v h' tk, (n = 0 → v = d) → (0 < n → P (argBest bt (n - 1)) v) → (∀ b o, b ∉ wr → b ≠ S → s.heap.get? b = some o → h'.get? b = some o) → R (.ok (.ret v)) { s with heap := h', toks := tk }) →
    codeAny (model prog w) A (.builtin "max.loop" ⟨[.ref I, .none, .ref S], [(nm, d)]⟩) R s := by
  have nw : S ∉ wr := fun h => out (wk.sub _ h)
  induction m with
  | zero =>
    intro j s vals c hm st seen cell fin
    have hj : n = j := hm
    subst hj
    refine codeAny_builtin F.entry_max_loop ?_
    rw [Around.under_plainId F.plain_max_loop _]
    show wpAny _ A.in1 (seqItems? (.ref S) >>= _) _ _ s
    refine wpAny_bind (wpAny_seqItems cell rfl ?_)
    show wpAny _ A.in1 (tryCatch (pyNext (.ref I)) _ >>= _) _ _ s
    refine wpAny_bind (wpAny_tryCatch (wk.done s _ _ st fun h1 tk1 k1 => ?_))
    have cell1 := k1 S _ nw cell
    rcases seen with ⟨h0, rfl⟩ | ⟨i, vb, h0, rfl, best⟩
    · subst h0
      show wpAny _ A.in1 (rule _ >>= _) _ _ _
      refine wpAny_bind (wpAny_rule ?_)
      exact wpAny_pure (fin d h1 tk1 (fun _ => rfl) (fun z => absurd z (Nat.lt_irrefl _)) fun b o q _ e => k1 b o q e)
    · subst h0
      show wpAny _ A.in1 (updateSeq S (fun _ => #[]) >>= _) _ _ _
      refine wpAny_bind ?_
      refine wpAny_updateSeq cell1 rfl (wpAny_bind (wpAny_letGo (wpAny_pure ?_)))
      exact fin vb _ tk1 (fun z => absurd z (Nat.succ_ne_zero _)) (fun _ => best) fun b o q ne e => (Heap.get?_update_other _ _ (Ne.symm ne)).trans (k1 b o q e)
  | succ m ih =>
    intro j s vals c hm st seen cell fin
    have hj : j < n := by omega
    refine codeAny_builtin F.entry_max_loop ?_
    rw [Around.under_plainId F.plain_max_loop _]
    show wpAny _ A.in1 (seqItems? (.ref S) >>= _) _ _ s
    refine wpAny_bind (wpAny_seqItems cell rfl ?_)
    show wpAny _ A.in1 (tryCatch (pyNext (.ref I)) _ >>= _) _ _ s
    refine wpAny_bind (wpAny_tryCatch (wk.item j s _ _ hj st fun v h1 tk1 pv st1 k1 => ?_))
    have cell1 := k1 S _ nw cell
    rcases seen with ⟨h0, rfl⟩ | ⟨i, vb, h0, rfl, best⟩
    · subst h0
      show wpAny _ A.in1 (updateSeq S (fun _ => #[v, v]) >>= _) _ _ _
      refine wpAny_bind ?_
      refine wpAny_updateSeq cell1 rfl ?_
      rw [loop_name]
      refine wpAny_pure ⟨plainId_quiet F.plain_max_loop _, ih 1 _ #[v, v] _ (by omega) (wk.frame _ _ _ st1 fun b hb o e => ?_) (.inr ⟨0, v, rfl, rfl, pv⟩) (Heap.get?_update_self _ cell1 rfl) fun v2 h2 tk2 q0 q1 k2 => ?_⟩
      · exact (Heap.get?_update_other _ _ (fun z : S = b => out (z ▸ hb))).trans e
      · exact fin v2 h2 tk2 q0 q1 fun b o q ne e => k2 b o q ne ((Heap.get?_update_other _ _ (Ne.symm ne)).trans (k1 b o q e))
    · subst h0
      show wpAny _ A.in1 (tryCatch (holding [v, v] (richCompare .Gt v vb >>= _)) _ >>= _) _ _ _
      refine wpAny_bind (wpAny_tryCatch (wpAny_holding (wpAny_bind (cmp (i + 1) (argBest bt i) v vb _ _ _ pv best ?_))))
      refine wpAny_bind (wpAny_holding (wpAny_truthy_bool ?_))
      refine wpAny_bind (wpAny_letGo (wpAny_pure ?_))
      cases hb : bt (i + 1) (argBest bt i) with
      | true =>
        simp only [if_true]
        refine wpAny_bind ?_
        refine wpAny_updateSeq cell1 rfl (wpAny_bind (wpAny_letGo ?_))
        rw [loop_name]
        refine wpAny_pure ⟨plainId_quiet F.plain_max_loop _, ih (i + 2) _ #[v, v] _ (by omega) (wk.frame _ _ _ st1 fun b hb o e => ?_) (.inr ⟨i + 1, v, rfl, rfl, by rw [argBest, if_pos hb]; exact pv⟩) (Heap.get?_update_self _ cell1 rfl) fun v2 h2 tk2 q0 q1 k2 => ?_⟩
        · exact (Heap.get?_update_other _ _ (fun z : S = b => out (z ▸ hb))).trans e
        · exact fin v2 h2 tk2 q0 q1 fun b o q ne e => k2 b o q ne ((Heap.get?_update_other _ _ (Ne.symm ne)).trans (k1 b o q e))
      | false =>
        simp only [Bool.false_eq_true, if_false]
        refine wpAny_bind (wpAny_letGo ?_)
        rw [loop_name]
        refine wpAny_pure ⟨plainId_quiet F.plain_max_loop _, ih (i + 2) _ #[vb, vb] c (by omega) st1 (.inr ⟨i + 1, vb, rfl, rfl, by rw [argBest, if_neg (by rw [hb]; decide)]; exact best⟩) cell1 fun v2 h2 tk2 q0 q1 k2 => ?_⟩
        exact fin v2 h2 tk2 q0 q1 fun b o q ne e => k2 b o q ne (k1 b o q e)
end
theorem mx_args (a v : Value) : argsOk "max" ⟨[a], [(Str.ofString "default", v)]⟩ := by unfold argsOk; kernel_rfl
/-- the greatest, or d -/
def maxD (d : Int) : List Int → Int
  | [] => d
  | x :: r => r.foldl max x
theorem maxD_of {d m : Int} {ns : List Int} (hm : m ∈ ns) (h : ∀ y ∈ ns, y ≤ m) : maxD d ns = m := by
  cases ns with
  | nil => cases hm
  | cons x r =>
    have key : ∀ (r : List Int) (x : Int), (m ∈ x :: r) → (∀ y ∈ x :: r, y ≤ m) → r.foldl max x = m := by
      intro r
      induction r with
      | nil => intro x hx _; rw [List.mem_singleton.mp hx]; rfl
      | cons y r ih =>
        intro x hx hy
        rw [List.foldl_cons]
        refine ih (max x y) ?_ ?_
        · have a := hy x (by simp)
          have b := hy y (by simp)
          simp only [List.mem_cons] at hx ⊢
          rcases hx with rfl | rfl | hx
          · left; omega
          · left; omega
          · exact .inr hx
        · intro z hz
          have a := hy x (by simp)
          have b := hy y (by simp)
          simp only [List.mem_cons] at hz
          rcases hz with rfl | hz
          · omega
          · exact hy z (by simp [hz])
    exact key r x hm h
def rMaxDef (K : PySem.W.Frag) : List V → List V → Hp → VK → Prop := fun vs zs H Q => ∃ (a : Addr) (ns : List Int) (d : Int), vs = [.ref a] ∧ zs = [.int d] ∧ SqL K H a (ns.map V.int) ∧ Q (.int (maxD d ns)) H
theorem cr_maxDef {X : Cx} (hc : X.calm = true) : CallRK X (.builtin "max") [Str.ofString "default"] (rMaxDef X.K) := by
  intro pins s σ H vs zs us ws Q I rv rz h
  obtain ⟨a, ns, d, rfl, rfl, hs, q⟩ := h
  obtain ⟨its, ri, hl, _⟩ := I.list hs
  have hi := ri.ints
  obtain rfl := Vals.ref1 rv
  have hw : ∃ t, ws = [Value.int d t] := by
    cases rz with
    | cons r t =>
      cases t
      obtain ⟨t, rfl⟩ := r
      exact ⟨t, rfl⟩
  obtain ⟨td, rfl⟩ := hw
  obtain ⟨xs, e⟩ := hi.allInts.items
  have hn : numsOf (intItems xs).toList = ns := by rw [← e]; exact hi.numsOf
  rw [nums_intItems] at hn
  subst hn
  have hl2 := hl.isList
  rw [e] at hl2
  show wpAny (model X.prog X.w) X.A (call (.builtin "max") [.ref a] [(Str.ofString "default", Value.int d td)]) (EP X pins σ Q) X.xe s
  refine kmk_tree F.kind_max F.plain_max F.entry_max (mx_args _ _) ?_
  refine wpAny_bind (wpAny_of_eq (show Builtin.Builtins.bindParams "max" ["key", "default"] 0 ⟨[], [(Str.ofString "default", Value.int d td)]⟩ = pure [none, some (.int d td)] from rfl) ?_)
  refine wpAny_bind (wpAny_pure ?_)
  refine wpAny_bind (iter_intList hl2 fun s2 e2 st2 fp2 ne2 => ?_)
  subst e2
  have wk := Walks.list (prog := X.prog) (w := X.w) (A := X.A.in1) (I.ok.hd hc) _ a ne2 (intItems xs)
  refine wpAny_bind (wpAny_newObj_type ?_)
  rw [loop_name]
  refine wpAny_pure ⟨plainId_quiet F.plain_max_loop _, mx_turns wk (CmpOf.ints_gt (numAt xs) (fun _ _ => intItems_at)) (bt := fun i j => decide (numAt xs i > numAt xs j)) (fun z => Nat.lt_irrefl _ (fp2 _ z)) _ 0 _ #[] 0 (Nat.zero_add _).symm (wk.frame _ _ _ st2 fun b _ o e => Heap.get?_push_of_some _ e) (.inl ⟨rfl, rfl⟩) (Heap.get?_push_size _ rfl) fun v h2 tk2 q0 q1 k2 => ?_⟩
  have keep : ∀ b o, s.heap.get? b = some o → h2.get? b = some o := fun b o z => k2 b o (by
    intro m
    have := List.mem_singleton.mp m
    subst this
    exact Nat.lt_irrefl _ (Heap.lt_size z)) (by
    intro m
    subst m
    have h9 := Heap.lt_size z
    exact Nat.lt_irrefl _ (Nat.lt_of_succ_lt (Nat.lt_of_le_of_lt (Nat.le_of_eq (size_push' _ _).symm) h9))) (Heap.get?_push_of_some _ (Heap.get?_push_of_some _ z))
  have sz : (intItems xs).size = xs.size := by simp [intItems]
  rw [sz] at q0 q1
  by_cases h0 : xs.size = 0
  · rw [q0 h0]
    have : xs.toList = [] := by
      have := Array.length_toList (xs := xs)
      exact List.eq_nil_of_length_eq_zero (by omega)
    exact ⟨.int d, H, I.kept keep, ⟨_, rfl⟩, by rw [this] at q; exact q⟩
  · have h1 := q1 (by omega)
    obtain ⟨t, rfl⟩ := intItems_at h1
    obtain ⟨g1, g2⟩ := argBest_gt (numAt xs) (xs.size - 1)
    refine ⟨.int _, H, I.kept keep, ⟨_, rfl⟩, ?_⟩
    rw [maxD_of (m := numAt xs (argBest (fun i j => decide (numAt xs i > numAt xs j)) (xs.size - 1))) ?_ fun y hy => ?_] at q
    · exact q
    · rw [numAt_eq]; exact PySem.getD_mem (by rw [List.length_map, Array.length_toList]; omega)
    · obtain ⟨j, hj, rfl⟩ := mem_getD hy
      rw [List.length_map, Array.length_toList] at hj
      rw [← numAt_eq]; exact g2 j (by omega)
end DL

/-! The data layer: recursion, extend, ranges, dict displays, max with a default. -/
namespace DL
open PySem PySem.Spec PyProof.Rows L2
section
variable {X : Cx} {K : PySem.W.Frag} {cA : Str → Addr} {W : WX} {B : Addr → Prop} {ι ι' : List Addr} {S : Sto} {H H' : Hp} {σ : L2.St} {e : En} {a b c : Expr} {ma mb : ME} {xs : MA} {pos : Pos} {es : List Expr} {sb : MS} {st : Stmt}
variable {P : Program} {w : World} {mg : Str → Option Value} {base : Heap}
/-- a function that nobody has shown anything of -/
theorem fd_bad {x : Str} {sd : Stmt} {f : Addr} {fd : FuncData} {N ps : List Str} {k : Nat} (F : Fun K x x sd f fd) (mgf : mg x = some (.ref f)) (kp : PySem.W.keepIn K (.ref f) = true) (b : Binds K fd ps []) (sc : FnScope N ps (defScope sd)) :
    FD P w K mg base cA (k + 1) x ps.length (fun _ _ => .bad) :=
  ⟨f, fd, ps, F.okX sc (sp := spM K cA ps.length fun _ _ => .bad) (fun vs H Q E h => spM_len h) (fun cdv A outer s H vs Q E hr h => by
    obtain ⟨_, _, _, _, _, _, _, z⟩ := h
    exact False.elim z), mgf, kp, b⟩

/-! ### extend -/
def extI (S : Sto) : D → D → RE
  | .obj n, d => match S[n]?, view S d with
    | some (.lst ds), .lst zs => if (ds.length + zs.length ≤ 16777216 ∧ noS d = true) then .ok .non (S.set n (.lst (ds ++ zs))) else .bad
    | _, _ => .bad
  | _, _ => .bad
def eExt (mo mv : ME) : ME := fun e S => (mo e S).bind fun o S1 => if isL S1 o = true then (mv e S1).bind fun d S2 => extI S2 o d else .bad
theorem q_ext {o v : Expr} {mo mv : ME} {apos : Pos} (ho : PE X o (tE X.K cA W mo)) (hv : PE X v (tE X.K cA W mv))
    (h : ∀ {to : TE} {t : TA}, PE X o to → PA X [v] t → PE X (.Call (.Attribute o "extend" apos) [v] [] pos) (tBM X.K "list" rExtend to t)) (hst : starEach [v] X.env = [(false, eval v X.env)] := by rfl) : PE X (.Call (.Attribute o "extend" apos) [v] [] pos) (tE X.K cA W (eExt mo mv)) :=
  PEi (h ho (pa_cons hv pa_nil hst)) fun σ H Q ⟨B, ι, e, S, re, p⟩ =>
    .of re (po_bind re p fun ι1 v1 H1 d1 S1 f1 r1 rd1 p1 => by
      split at p1
      · rename_i hl
        unfold isL at hl
        split at hl
        · rename_i n
          split at hl
          · rename_i ds0 q0
            obtain ⟨a, h1, us0, h20, h30⟩ := r1.rs.at_ n _ q0
            obtain ⟨a', rfl, h4⟩ := rd1.obj
            rw [h1] at h4; cases h4
            refine ⟨.inl ⟨rfl, _, SqL.of h20⟩, .of r1 (po_bind r1 p1 fun ι2 v2 H2 d2 S2 f2 r2 rd2 p2 => ?_)⟩
            unfold extI at p2
            simp only at p2
            split at p2
            · rename_i ds zs q q2
              split at p2
              · rename_i hz
                obtain ⟨a2, h5, us, h6, h7⟩ := r2.rs.at_ n _ q
                rw [f2.get h1] at h5; cases h5
                obtain ⟨b, ys, rfl, h8, h9⟩ := v_lstR r2.rs rd2 q2 hz.2
                refine ⟨a, b, us, ys, rfl, rfl, h6, h8, by rw [sizeL, ← h7.len, ← h9.len]; exact hz.1, ?_⟩
                have fr : Fr ι2 ι2 H2 (upd H2 a (.lst (us ++ ys))) := Fr.at (List.mem_of_getElem? (f2.get h1))
                exact p2 ι2 _ _ fr (r2.rs.setL q (f2.get h1) (h7.append h9)) RD.mk_non
              · exact p2.elim
            · exact p2.elim
          · cases hl
        · cases hl
      · exact p1.elim)

theorem PAm {σ : L2.St} {H : Hp} {Q Q' : List V → Hp → Prop} (h : tA K cA W xs σ H Q) (k : ∀ vs H1, Q vs H1 → Q' vs H1) : tA K cA W xs σ H Q' := by
  obtain ⟨B, ι, e, S, re, p⟩ := h
  refine .of re ?_
  revert p
  cases xs e S with
  | bad => exact _root_.id
  | exc c S1 => exact _root_.id
  | ok ds S1 => exact fun p ι1 vs H1 f r rd => k _ _ (p ι1 vs H1 f r rd)
/-! ### ranges -/
/-- range(..): where from, how many -/
def rgs : List D → Option (Int × Nat)
  | [.int n] => if -(2 ^ 62) ≤ n ∧ n < 2 ^ 62 then some (0, n.toNat) else none
  | [.int i, .int j] => if (-(2 ^ 62) ≤ i ∧ i < 2 ^ 62) ∧ -(2 ^ 62) ≤ j ∧ j < 2 ^ 62 then some (i, (j - i).toNat) else none
  | _ => none
noncomputable def sForG (it : MA) (tg : MTg) (body : MS) : MS := fun e S => match it e S with
  | .ok ds S1 => match rgs ds with
    | some (lo, n) => forD (fun _ => True) tg body (rng lo n) e S1
    | none => .bad
  | .exc c S1 => .exc c e S1
  | .bad => .bad
/-- what a range of arguments asks -/
theorem rng_go {xs : List V} {ds : List D} {lo : Int} {n : Nat} {R : It → Hp → Prop} (rd : RDs K B ι H ds xs) (h : rgs ds = some (lo, n)) (q : R (Itr lo n) H) :
    ((∃ d, ds = [d]) → ∃ j : Int, xs = [.int j] ∧ -(2 ^ 62) ≤ j ∧ j < 2 ^ 62 ∧ R (Itr 0 j.toNat) H) ∧ ((∃ d d', ds = [d, d']) → ∃ i j : Int, xs = [.int i, .int j] ∧ (-(2 ^ 62) ≤ i ∧ i < 2 ^ 62 ∧ -(2 ^ 62) ≤ j ∧ j < 2 ^ 62) ∧ R (Itr i (j - i).toNat) H) := by
  unfold rgs at h
  split at h
  · split at h
    · rename_i hn
      cases h
      obtain ⟨v, rfl, rd2⟩ := rd.one
      exact ⟨fun _ => ⟨_, by rw [rd2.int], hn.1, hn.2, q⟩, fun ⟨_, _, z⟩ => by cases z⟩
    · cases h
  · split at h
    · rename_i hn
      cases h
      obtain ⟨v, v', rfl, rd2, rd3⟩ := rd.two
      exact ⟨fun ⟨_, z⟩ => (by cases z), fun _ => ⟨_, _, by rw [rd2.int, rd3.int], ⟨hn.1.1, hn.1.2, hn.2.1, hn.2.2⟩, q⟩⟩
    · cases h
  · cases h
/-- arguments: so many -/
structure PAn (X : Cx) (es : List Expr) (cA : Str → Addr) (W : WX) (n : Nat) (m : MA) : Prop where
  pa : PA X es (tA X.K cA W m)
  len : ∀ e S ds S', m e S = .ok ds S' → ds.length = n
theorem aC_len {m : ME} {r : MA} {n : Nat} (h : ∀ e S ds S', r e S = .ok ds S' → ds.length = n) : ∀ e S ds S', aC m r e S = .ok ds S' → ds.length = n + 1 := by
  intro e S ds S' q
  unfold aC RE.bindA at q
  cases q1 : m e S with
  | bad => rw [q1] at q; cases q
  | exc _ _ => rw [q1] at q; cases q
  | ok d S1 =>
    rw [q1] at q
    simp only at q
    unfold RA.bindA at q
    cases q2 : r e S1 with
    | bad => rw [q2] at q; cases q
    | exc _ _ => rw [q2] at q; cases q
    | ok ds2 S2 =>
      rw [q2] at q
      cases q
      rw [List.length_cons, h _ _ _ _ q2]
theorem aN_len : ∀ e S ds S', aN e S = .ok ds S' → ds.length = 0 := by
  intro e S ds S' q
  cases q
  rfl
theorem for_rgs {g : TG} {m : MTg} {sl : List Nat} {wi : TI} {D' : Ends} (ht : TgD X.K cA g m sl)
    (hw : ∀ σ H (R : It → Hp → Prop), (tA X.K cA W xs σ H fun vs H1 => ∃ B ι ds lo n, RDs X.K B ι H1 ds vs ∧ (∃ e S S', xs e S = .ok ds S') ∧ rgs ds = some (lo, n) ∧ R (Itr lo n) H1) → wi σ H R)
    (re : Rel X.K cA B ι e S σ H) (p : PoS X.K cA W B (sForG xs m sb e S) ι H D') :
    wi σ H fun J H1 => ∃ Wd : Nat → Nat → L2.St → Hp → Prop, (∃ n, Wd 0 n σ H1) ∧ ∀ i n σ H, Wd i n σ H →
      (J.stop i H ∧ D'.nx σ H) ∨ (J.go i H ∧ ∃ N : L2.St → Hp → Prop, (∀ σ' H', N σ' H' → ∃ n', n' < n ∧ Wd (i + 1) n' σ' H') ∧ ∀ x H', J.yld i H x H' → g x σ H' fun σ2 H2 => tS X.K cA W sb { D' with nx := N, ct := N, bk := D'.nx } σ2 H2) := by
  refine hw σ H _ (.of re ?_)
  unfold sForG at p
  cases q : xs e S with
  | bad => rw [q] at p; exact p.elim
  | exc c S1 => rw [q] at p; exact fun ι' H' fr rs => p ι' σ H' fr (re.fr fr rs)
  | ok ds S1 =>
    rw [q] at p
    simp only at p
    intro ι1 vs H1 f1 rs1 rd1
    split at p
    · rename_i lo n hr
      exact ⟨B, ι1, ds, lo, n, rd1, ⟨e, S, S1, q⟩, hr, for_wk (C := fun _ => True) (g := g) (m := m) (body := sb) (D' := D') wk_rng ht (fun _ _ _ _ _ _ _ _ => True.intro) (re.fr f1 rs1) (PoS.on f1 p)⟩
    · exact p.elim
theorem s_forG1 {g : TG} {m : MTg} {sl : List Nat} {tg : Expr} {body : List Stmt} {p : Pos} {pos' : Pos} (hp : PassesOwn (model X.prog X.w) X.A X.env X.xe) (hc : X.calm = true) (hgl : Gl X "range") (hm : X.mg "range" = none) (hi : PE X a (tE X.K cA W ma)) (hg : PG X tg g) (ht : TgD X.K cA g m sl) (hb : PSs X body (tS X.K cA W sb))
    (hs : ∀ x, foldedSetIterable (.Call (.Name "range" p) [a] [] pos') X.env x = pure x := by intro _; rfl) (hst : starEach [a] X.env = [(false, eval a X.env)] := by rfl) : PS X (.For tg (.Call (.Name "range" p) [a] [] pos') body [] pos) (tS X.K cA W (sForG (aC ma aN) m sb)) :=
  PSi (ps_for hp hc (pi_range1 hgl hm (a_cons hi a_nil hst) hst) hg hb hs) fun D' σ H ⟨B, ι, e, S, re, p⟩ => for_rgs (wi := iRng1 (tA X.K cA W (aC ma aN))) ht (fun σ H R h => PAm h fun vs H1 ⟨B, ι, ds, lo, n, rd, ⟨e, S, S', z⟩, hr, q⟩ => (rng_go rd hr q).1 (by
    have := aC_len aN_len _ _ _ _ z
    match ds, this with
    | [d], _ => exact ⟨d, rfl⟩)) re p
theorem s_forG2 {g : TG} {m : MTg} {sl : List Nat} {tg : Expr} {body : List Stmt} {p : Pos} {pos' : Pos} (hp : PassesOwn (model X.prog X.w) X.A X.env X.xe) (hc : X.calm = true) (hgl : Gl X "range") (hm : X.mg "range" = none) (hi : PE X a (tE X.K cA W ma)) (hj : PE X b (tE X.K cA W mb)) (hg : PG X tg g) (ht : TgD X.K cA g m sl) (hb : PSs X body (tS X.K cA W sb))
    (hs : ∀ x, foldedSetIterable (.Call (.Name "range" p) [a, b] [] pos') X.env x = pure x := by intro _; rfl) (hst1 : starEach [b] X.env = [(false, eval b X.env)] := by rfl) (hst : starEach [a, b] X.env = [(false, eval a X.env), (false, eval b X.env)] := by rfl) : PS X (.For tg (.Call (.Name "range" p) [a, b] [] pos') body [] pos) (tS X.K cA W (sForG (aC ma (aC mb aN)) m sb)) :=
  PSi (ps_for hp hc (pi_range2 hgl hm (a_cons hi (a_cons hj a_nil hst1) (by rw [hst, hst1])) hst hst1) hg hb hs) fun D' σ H ⟨B, ι, e, S, re, p⟩ => for_rgs (wi := iRng2 (tA X.K cA W (aC ma (aC mb aN)))) ht (fun σ H R h => PAm h fun vs H1 ⟨B, ι, ds, lo, n, rd, ⟨e, S, S', z⟩, hr, q⟩ => (rng_go rd hr q).2 (by
    have := aC_len (aC_len aN_len) _ _ _ _ z
    match ds, this with
    | [d, d'], _ => exact ⟨d, d', rfl⟩)) re p
end
end DL

/-! The data layer: comprehensions over ranges, dict displays, max with a default. -/
namespace DL
open PySem PySem.Spec PyProof.Rows L2
section
variable {X : Cx} {K : PySem.W.Frag} {cA : Str → Addr} {W : WX} {B : Addr → Prop} {ι ι' : List Addr} {S : Sto} {H H' : Hp} {σ : L2.St} {e : En} {a b c : Expr} {ma mb : ME} {xs : MA} {pos : Pos} {es : List Expr} {sb : MS} {st : Stmt}
noncomputable def eLcG (it : MA) (tg : MTg) (tt : MB) (el : ME) (own : List Nat) : ME := fun e S => match it e S with
  | .ok ds S1 => match rgs ds with
    | some (lo, n) => lcD (fun _ => True) tg tt el (wipeE e own) (rng lo n) [] S1
    | none => .bad
  | .exc c S1 => .exc c S1
  | .bad => .bad
section
variable {it tg elt : Expr} {ifs : List Expr} {g : TG} {m : MTg} {sl : List Nat} {tt : MB} {el : ME} {own : List (Str × Nat)} {scope : Scope} {wi : TI}
theorem PoE.on' {r : RE} {ι ι' : List Addr} {H H' : Hp} {Q : VK} (fr : Fr ι ι' H H') (h : PoE K cA W B r ι σ H Q) : PoE K cA W B r ι' σ H' Q := by
  cases r with
  | bad => exact h
  | ok d2 S2 => exact fun ι2 v2 H2 f2 r2 d2 => h ι2 v2 H2 (fr.trans f2) r2 d2
  | exc c S2 => exact fun ι2 H2 f2 r2 => h ι2 H2 (fr.trans f2) r2
theorem lc_rgs (hg : TgD X.K cA g m sl) (hsl : ∀ i ∈ sl, i ∈ own.map (·.2))
    (hw : ∀ σ H (R : It → Hp → Prop), (tA X.K cA W xs σ H fun vs H1 => ∃ B ι ds lo n, RDs X.K B ι H1 ds vs ∧ (∃ e S S', xs e S = .ok ds S') ∧ rgs ds = some (lo, n) ∧ R (Itr lo n) H1) → wi σ H R) :
    ∀ σ H Q, tE X.K cA W (eLcG xs m tt el (own.map (·.2))) σ H Q → tLc wi g (tT X.K cA WF tt) (tE X.K cA WF el) (own.map (·.2)) σ H Q := fun σ H Q ⟨B, ι, e, S, re, p⟩ => by
  unfold eLcG at p
  refine hw σ H _ (.of re ?_)
  cases q : xs e S with
  | bad => rw [q] at p; exact p.elim
  | exc c S1 => rw [q] at p; exact p
  | ok ds S1 =>
    rw [q] at p
    simp only at p
    intro ι1 vs H1 f1 rs1 rd1
    split at p
    · rename_i lo n hr
      refine ⟨B, ι1, ds, lo, n, rd1, ⟨e, S, S1, q⟩, hr, fun p' np => ?_⟩
      exact lc_wk (W := W) (C := fun _ => True) (g := g) (m := m) (tt := tt) (el := el) (own := own.map (·.2)) (Q := Q) (wk_rng (lo := lo) (n := n)) hg hsl np (fun _ _ _ _ _ _ => True.intro) (re.fr f1 rs1) (PoE.on' f1 p)
    · exact p.elim
variable {p : Pos} {pos' : Pos}
theorem w_rng1 : ∀ σ H (R : It → Hp → Prop), (tA X.K cA W (aC ma aN) σ H fun vs H1 => ∃ B ι ds lo n, RDs X.K B ι H1 ds vs ∧ (∃ e S S', aC ma aN e S = .ok ds S') ∧ rgs ds = some (lo, n) ∧ R (Itr lo n) H1) → iRng1 (tA X.K cA W (aC ma aN)) σ H R :=
  fun σ H R h => PAm h fun vs H1 ⟨B, ι, ds, lo, n, rd, ⟨e, S, S', z⟩, hr, q⟩ => (rng_go rd hr q).1 (by
    have := aC_len aN_len _ _ _ _ z
    match ds, this with
    | [d], _ => exact ⟨d, rfl⟩)
theorem w_rng2 : ∀ σ H (R : It → Hp → Prop), (tA X.K cA W (aC ma (aC mb aN)) σ H fun vs H1 => ∃ B ι ds lo n, RDs X.K B ι H1 ds vs ∧ (∃ e S S', aC ma (aC mb aN) e S = .ok ds S') ∧ rgs ds = some (lo, n) ∧ R (Itr lo n) H1) → iRng2 (tA X.K cA W (aC ma (aC mb aN))) σ H R :=
  fun σ H R h => PAm h fun vs H1 ⟨B, ι, ds, lo, n, rd, ⟨e, S, S', z⟩, hr, q⟩ => (rng_go rd hr q).2 (by
    have := aC_len (aC_len aN_len) _ _ _ _ z
    match ds, this with
    | [d, d'], _ => exact ⟨d, d', rfl⟩)
theorem i_rng1 (hgl : Gl X "range") (hm : X.mg "range" = none) (hi : PE X a (tE X.K cA W ma)) (hst : starEach [a] X.env = [(false, eval a X.env)] := by rfl) : PI X tg (.Call (.Name "range" p) [a] [] pos') (iRng1 (tA X.K cA W (aC ma aN))) := pi_range1 hgl hm (a_cons hi a_nil hst) hst
theorem i_rng2 (hgl : Gl X "range") (hm : X.mg "range" = none) (hi : PE X a (tE X.K cA W ma)) (hj : PE X b (tE X.K cA W mb)) (hst1 : starEach [b] X.env = [(false, eval b X.env)] := by rfl) (hst : starEach [a, b] X.env = [(false, eval a X.env), (false, eval b X.env)] := by rfl) :
    PI X tg (.Call (.Name "range" p) [a, b] [] pos') (iRng2 (tA X.K cA W (aC ma (aC mb aN)))) := pi_range2 hgl hm (a_cons hi (a_cons hj a_nil hst1) (by rw [hst, hst1])) hst hst1
theorem q_lcG (hw : ∀ σ H (R : It → Hp → Prop), (tA X.K cA W xs σ H fun vs H1 => ∃ B ι ds lo n, RDs X.K B ι H1 ds vs ∧ (∃ e S S', xs e S = .ok ds S') ∧ rgs ds = some (lo, n) ∧ R (Itr lo n) H1) → wi σ H R)
    (ht : TgD X.K cA g m sl) (hsl : ∀ i ∈ sl, i ∈ own.map (·.2)) (hc : X.calm = true) (hN : X.N.Nodup) (hi : PI X tg it wi) (ok : BlkOk X.N X.env.scope scope own)
    (hg : ∀ (s : Shared) (H : Hp) (C : Addr) (cl : List (Str × Addr)) (fp : List Addr), PG (X.blk s H scope (compEnvC scope cl C X.env) fp) tg g) (hx : ∀ (s : Shared) (H : Hp) (C : Addr) (cl : List (Str × Addr)) (fp : List Addr), PTs (X.blk s H scope (compEnvC scope cl C X.env) fp) ifs (tT X.K cA WF tt))
    (he : ∀ (s : Shared) (H : Hp) (C : Addr) (cl : List (Str × Addr)) (fp : List Addr), PE (X.blk s H scope (compEnvC scope cl C X.env) fp) elt (tE X.K cA WF el)) (hs : ∀ x, foldedSetIterable it X.env x = pure x := by intro _; rfl) :
    PE X (.ListComp elt [⟨tg, it, ifs, 0⟩] scope pos) (tE X.K cA W (eLcG xs m tt el (own.map (·.2)))) := PEi (pe_lc hc hN hi ok hg hx he hs) (lc_rgs ht hsl hw)
theorem s_setLcG {i : Nat} {y : Str} {py spos : Pos} (hw : ∀ σ H (R : It → Hp → Prop), (tA X.K cA W xs σ H fun vs H1 => ∃ B ι ds lo n, RDs X.K B ι H1 ds vs ∧ (∃ e S S', xs e S = .ok ds S') ∧ rgs ds = some (lo, n) ∧ R (Itr lo n) H1) → wi σ H R)
    (ht : TgD X.K cA g m sl) (hsl : ∀ i ∈ sl, i ∈ own.map (·.2)) (hc : X.calm = true) (hN : X.N.Nodup) (hy : X.N[i]? = some y) (hyl : X.env.scope.names.lookup y = some .local)
    (hsw : swapsWith (.ListComp elt [⟨tg, it, ifs, 0⟩] scope pos) (some (.Name y py)) spos.line X.env = pure true) (hi : PI X tg it wi) (ok : BlkOk X.N X.env.scope scope own)
    (hg : ∀ (s : Shared) (H : Hp) (C : Addr) (cl : List (Str × Addr)) (fp : List Addr), PG (X.blk s H scope (compEnvC scope cl C X.env) fp) tg g) (hx : ∀ (s : Shared) (H : Hp) (C : Addr) (cl : List (Str × Addr)) (fp : List Addr), PTs (X.blk s H scope (compEnvC scope cl C X.env) fp) ifs (tT X.K cA WF tt))
    (he : ∀ (s : Shared) (H : Hp) (C : Addr) (cl : List (Str × Addr)) (fp : List Addr), PE (X.blk s H scope (compEnvC scope cl C X.env) fp) elt (tE X.K cA WF el)) (hs : ∀ x, foldedSetIterable it X.env x = pure x := by intro _; rfl) :
    PS X (.Assign [.Name y py] (.ListComp elt [⟨tg, it, ifs, 0⟩] scope pos) spos) (tS X.K cA W (sSet i (eLcG xs m tt el (own.map (·.2))))) :=
  PSi (ps_setLc hc hN hy hyl hsw hi ok hg hx he hs) fun D' σ H ⟨B, ι, e, S, re, p⟩ => lc_rgs ht hsl hw σ H _ (.of re (po_bindS re p fun ι1 v1 H1 d1 S1 f1 r1 rd1 p1 => p1 ι1 _ H1 Fr.refl (r1.set rd1)))
end

/-! ### dict displays -/
def keyD : D → Option Key
  | .int i => some (.inl i)
  | .str x => some (.inr x)
  | _ => none
theorem keyD_V {d : D} {v : V} {k : Key} (rd : RD K B ι H d v) (h : keyD d = some k) : v = kV k := by
  cases d with
  | int i => cases h; rw [rd.int]; rfl
  | str i => cases h; rw [rd.str]; rfl
  | _ => cases h
def prsD : List (ME × ME) → En → Sto → Option (List (Key × D) × Sto)
  | [], _, S => some ([], S)
  | p :: r, e, S => match p.1 e S with
    | .ok dk S1 => match keyD dk, p.2 e S1 with
      | some k, .ok dv S2 => match prsD r e S2 with
        | some (kvs, S3) => some ((k, dv) :: kvs, S3)
        | none => none
      | _, _ => none
    | _ => none
def eDisp (ps : List (ME × ME)) : ME := fun e S => match prsD ps e S with
  | some (kvs, S') => if kvs.length ≤ 15 ∧ (kvs.map (·.1)).Nodup then .ok (.dct (kvs.map (·.1)) (kvs.map (·.2))) S' else .bad
  | none => .bad
theorem merge_nd : ∀ {more acc : List (Key × V)}, ((acc ++ more).map (·.1)).Nodup → mergeK acc more = acc ++ more
  | [], acc, _ => by simp [mergeK]
  | kv :: r, acc, h => by
    have h1 : putK acc kv.1 kv.2 = acc ++ [kv] := by
      unfold putK
      rw [if_neg]
      intro z
      rw [List.any_eq_true] at z
      obtain ⟨q, hq, e⟩ := z
      rw [decide_eq_true_eq] at e
      rw [List.map_append, List.map_cons, List.nodup_append] at h
      exact h.2.2 q.1 (List.mem_map_of_mem hq) kv.1 List.mem_cons_self e
    show mergeK (putK acc kv.1 kv.2) r = _
    rw [h1, merge_nd (by simpa using h)]
    simp
theorem prs_ok {Q : List (V × V) → Hp → Prop} : ∀ {ps : List (ME × ME)} {ι : List Addr} {S : Sto} {H : Hp} {kvs : List (Key × D)} {S' : Sto}, prsD ps e S = some (kvs, S') → Rel K cA B ι e S σ H →
    (∀ ι' H' (us : List V), Fr ι ι' H H' → RS K cA B ι' S' H' → RDs K B ι' H' (kvs.map (·.2)) us → Q ((kvs.map fun kv => kV kv.1).zip us) H') → tPairs (ps.map fun p => (tE K cA W p.1, tE K cA W p.2)) σ H Q
  | [], ι, S, H, kvs, S', h, re, q => by
    cases h
    exact q ι H [] Fr.refl re.rs .nil
  | pr :: ps, ι, S, H, kvs, S', h, re, q => by
    rw [prsD] at h
    cases q1 : pr.1 e S with
    | bad => rw [q1] at h; cases h
    | exc _ _ => rw [q1] at h; cases h
    | ok dk S1 =>
      rw [q1] at h
      simp only at h
      refine (show tE K cA W pr.1 σ H _ from .of re ?_)
      rw [q1]
      intro ι1 v1 H1 f1 rs1 rd1
      split at h
      · rename_i k dv S2 e1 e2
        split at h
        · rename_i kvs' S3 e3
          cases h
          have re1 := re.fr f1 rs1
          refine (show tE K cA W pr.2 σ H1 _ from .of re1 ?_)
          rw [e2]
          intro ι2 v2 H2 f2 rs2 rd2
          refine prs_ok e3 (re1.fr f2 rs2) fun ι3 H3 us f3 rs3 rd3 => ?_
          have := q ι3 H3 (v2 :: us) (f1.trans (f2.trans f3)) rs3 (.cons (RD.fr f3 _ _ rd2) rd3)
          rw [keyD_V rd1 e1]
          exact this
        · cases h
      · cases h
theorem q_disp {keys : List (Option Expr)} {values : List Expr} {ps : List (ME × ME)} (h : PPs X pos keys values (ps.map fun p => (tE X.K cA W p.1, tE X.K cA W p.2))) (hall : keys.all (·.isSome) = true := by rfl) (hl : keys.length = values.length := by rfl) (h0 : keys ≠ [] := by decide)
    (h15 : keys.length ≤ 15 := by decide) : PE X (.Dict keys values pos) (tE X.K cA W (eDisp ps)) := PEi (pe_disp h hall hl h0 h15) fun σ H Q ⟨B, ι, e, S, re, p⟩ => by
  unfold eDisp at p
  cases q1 : prsD ps e S with
  | none => rw [q1] at p; exact p.elim
  | some r =>
    obtain ⟨kvs, S'⟩ := r
    rw [q1] at p
    simp only at p
    split at p
    · rename_i hz
      intro p' np
      have rs0 := re.rs.apart (o := .dK []) np
      have re0 : Rel X.K cA (plus B p') ι e S σ (upd H p' (.dK [])) := ⟨rs0, re.len, fun i d h => let ⟨v, h1, h2⟩ := re.ev i d h; ⟨v, h1, (h2.add np).app⟩⟩
      refine prs_ok q1 re0 fun ι1 H1 us f1 rs1 rd1 => ?_
      have hB := rs1.nB p' (.inr rfl)
      have hp0 : p' ∉ ι := (rs0.nB p' (.inr rfl)).1
      have len := rd1.len
      rw [List.length_map] at len
      refine ⟨f1.st p' _ upd_same hp0, (kvs.map (·.1)).zip us, ?_, by rw [List.length_zip, List.length_map, ← len, Nat.min_self]; exact hz.1, ?_⟩
      · rw [show (kvs.map fun kv => kV kv.1) = (kvs.map (·.1)).map kV from by simp]
        rw [List.zip_map_left, List.map_congr_left]
        intro a _
        rfl
      · have hn : (((kvs.map (·.1)).zip us).map (·.1)) = kvs.map (·.1) := by
          rw [List.map_fst_zip]
          rw [List.length_map, len]; exact Nat.le_refl _
        rw [merge_nd (acc := []) (by rw [List.nil_append, hn]; exact hz.2)]
        refine p ι1 _ _ ?_ rs1.app.less ?_
        · refine ⟨f1.pre.imp fun l hl => ⟨hl.1, fun x hx => ⟨(hl.2 x hx).1, ?_⟩⟩, fun x o hx hi => ?_⟩
          · have h2 := (hl.2 x hx).2
            by_cases hxp : x = p'
            · rw [hxp]; exact np
            · rw [upd_ne hxp] at h2; exact h2
          · have hxp := ne_of_none hx np
            rw [upd_ne hxp]
            exact f1.st x o (by rw [upd_ne hxp]; exact hx) hi
        · rw [RD]
          refine ⟨p', us, rfl, hB.1, not_B re.rs np, upd_same, by rw [List.length_map]; exact len, rd1.app.mB fun _ z => .inl z⟩
    · exact p.elim

/-! ### a call of no arguments -/
theorem q_call0 {x : Str} {k j n : Nat} {m : MF} {p : Pos} (tk : Takes X W) (F : FD X.prog X.w X.K X.mg X.base cA k x n m) (hr : Room j X.A) (hk : k ≤ j) (hg : Gl X x) (hdb : (x == ("__debug__" : Str)) = false := by decide) :
    PE X (.Call (.Name x p) [] [] pos) (tE X.K cA W (eCall' n m aN)) := by
  obtain ⟨f, fd, ps, h1, h2, h3, h4⟩ := F.ex
  refine ⟨fun pins s σ H Q I ⟨B, ι, e, S, re, p⟩ => ?_⟩
  refine wpAny_Call_Name_kw (ld_glob I hg h2 ?_ hdb)
  refine PySem.W.callWith_K0 I.kIn h3 (run_fnS (E := WE W) (us := []) h1 (hr.mono hk) h4 (passAt tk σ) I .nil ?_)
  have p1 : PoE X.K cA W B (if ([] : List D).length = n then callS m [] S else .bad) ι σ H Q := p
  split at p1
  · rename_i hn
    subst hn
    exact call_sub re.rs RDs.nil p1
  · exact p1.elim
/-! ### max(.., default=d) -/
theorem k_nil : PK X [] (tA X.K cA W aN) := ⟨fun pos pins s σ H Q I ⟨B, ι, e, S, re, p⟩ => pk_nil.run pos pins s σ H Q I (p ι [] H Fr.refl re.rs RDs.nil)⟩
theorem k_cons {nm : Option Str} {kpos : Pos} {kws : List Keyword} (ha : PE X a (tE X.K cA W ma)) (hr : PK X kws (tA X.K cA W xs)) : PK X (⟨nm, a, kpos⟩ :: kws) (tA X.K cA W (aC ma xs)) :=
  ⟨fun pos pins s σ H Q I ⟨B, ι, e, S, re, p⟩ => (pk_cons ha hr).run pos pins s σ H Q I (.of re (po_bindA re p fun ι1 v1 H1 d1 S1 f1 r1 rd1 p1 => .of r1 (poA_bindA r1 p1 fun ι2 vs2 H2 ds2 S2 f2 r2 rd2 p2 => p2 ι2 _ H2 Fr.refl r2.rs (.cons (RD.fr f2 _ _ rd1) rd2))))⟩
def gMaxD (S : Sto) (a b : List D) : Option D := match a, b with
  | [d], [.int k] => match view S d with
    | .lst ds => (intL ds).map fun ns => .int (maxD k ns)
    | _ => none
  | _, _ => none
def eBK (g : Sto → List D → List D → Option D) (xs ks : MA) : ME := fun e S => (xs e S).bind fun ds S1 => (ks e S1).bind fun zs S2 => opt (g S2 ds zs) S2
theorem q_maxD {d : Expr} {p kpos : Pos} {md : ME} (hc : X.calm = true) (hg : Gl X "max") (hm : X.mg "max" = none) (ha : PE X a (tE X.K cA W ma)) (hd : PE X d (tE X.K cA W md))
    (hst : starEach [a] X.env = [(false, eval a X.env)] := by rfl)
    (he : backTo pos (starEach [a] X.env) = (false, eval a X.env) :: backTo pos (starEach [] X.env) := by rfl) (hpl : (backTo pos (starEach [a] X.env)).any (·.1) = false := by rfl)
    (hall : (backToKw pos (keywordEach [⟨some "default", d, kpos⟩] X.env)).all (·.1.isSome) = true := by rfl) (hnone : (backToKw pos (keywordEach [⟨some "default", d, kpos⟩] X.env)).any (·.1.isNone) = false := by rfl) (hks : (backToKw pos (keywordEach [⟨some "default", d, kpos⟩] X.env)).filterMap (·.1) = [Str.ofString "default"] := by rfl) :
    PE X (.Call (.Name "max" p) [a] [⟨some "default", d, kpos⟩] pos) (tE X.K cA W (eBK gMaxD (aC ma aN) (aC md aN))) :=
  PEi (pe_callBK (cr_maxDef hc) hg hm (by rfl) (a_cons ha a_nil hst) (k_cons hd k_nil) (by decide) (by decide) he hpl hall hnone hks) fun σ H Q ⟨B, ι, e, S, re, p⟩ =>
    .of re (poA_bind re p fun ι1 vs H1 ds S1 f1 r1 rd1 p1 => .of r1 (poA_bind r1 p1 fun ι2 zs H2 ks S2 f2 r2 rd2 p2 => by
      obtain ⟨r, hr, q⟩ := po_opt p2 r2.rs
      unfold gMaxD at hr
      split at hr
      · rename_i d k
        obtain ⟨v, rfl, rv⟩ := rd1.one
        obtain ⟨u, rfl, ru⟩ := rd2.one
        split at hr
        · rename_i ds hv
          obtain ⟨a', us, rfl, h1, h2⟩ := v_lst r2.rs (RD.fr f2 _ _ rv) hv
          cases q3 : intL ds with
          | none => rw [q3] at hr; cases hr
          | some ns =>
            rw [q3] at hr
            cases hr
            rw [ints_V h2 q3] at h1
            exact ⟨a', ns, k, rfl, by rw [ru.int], h1, q _ _ same_refl RD.mk_int⟩
        · cases hr
      · cases hr))
end
end DL

/-! The data layer: it ends well, and so. -/
namespace DL
open PySem PySem.Spec PyProof.Rows L2
abbrev QE := D → Sto → Prop
abbrev QA := List D → Sto → Prop
abbrev QB := Bool → Sto → Prop
abbrev QX := Str → Sto → Prop
abbrev noX : QX := fun _ _ => False
def OkE (r : RE) (Q : QE) (X : QX) : Prop := match r with | .ok d S => Q d S | .exc c S => X c S | .bad => False
def OkA (r : RA) (Q : QA) (X : QX) : Prop := match r with | .ok d S => Q d S | .exc c S => X c S | .bad => False
def OkB (r : RB) (Q : QB) (X : QX) : Prop := match r with | .ok d S => Q d S | .exc c S => X c S | .bad => False
structure PO where
  nx : En → Sto → Prop
  rt : D → Sto → Prop
  bk : En → Sto → Prop
  ct : En → Sto → Prop
  ex : Str → En → Sto → Prop
def OkS (r : RS') (P : PO) : Prop := match r with | .nx e S => P.nx e S | .ret d S => P.rt d S | .brk e S => P.bk e S | .cont e S => P.ct e S | .exc c e S => P.ex c e S | .bad => False
section
variable {Q : QE} {QA' : QA} {QB' : QB} {X : QX} {P : PO} {d : D} {ds : List D} {b : Bool} {S : Sto} {c : Str} {e : En}
@[simp] theorem OkE_ok : OkE (.ok d S) Q X = Q d S := rfl
@[simp] theorem OkE_exc : OkE (.exc c S) Q X = X c S := rfl
@[simp] theorem OkE_bad : OkE .bad Q X = False := rfl
@[simp] theorem OkA_ok : OkA (.ok ds S) QA' X = QA' ds S := rfl
@[simp] theorem OkA_exc : OkA (.exc c S) QA' X = X c S := rfl
@[simp] theorem OkA_bad : OkA .bad QA' X = False := rfl
@[simp] theorem OkB_ok : OkB (.ok b S) QB' X = QB' b S := rfl
@[simp] theorem OkB_exc : OkB (.exc c S) QB' X = X c S := rfl
@[simp] theorem OkB_bad : OkB .bad QB' X = False := rfl
@[simp] theorem OkS_nx : OkS (.nx e S) P = P.nx e S := rfl
@[simp] theorem OkS_ret : OkS (.ret d S) P = P.rt d S := rfl
@[simp] theorem OkS_brk : OkS (.brk e S) P = P.bk e S := rfl
@[simp] theorem OkS_cont : OkS (.cont e S) P = P.ct e S := rfl
@[simp] theorem OkS_exc : OkS (.exc c e S) P = P.ex c e S := rfl
@[simp] theorem OkS_bad : OkS .bad P = False := rfl
@[simp] theorem OkE_bind {r : RE} {f : D → Sto → RE} : OkE (r.bind f) Q X = OkE r (fun d S => OkE (f d S) Q X) X := by cases r <;> rfl
@[simp] theorem OkE_bindA {r : RE} {f : D → Sto → RA} : OkA (r.bindA f) QA' X = OkE r (fun d S => OkA (f d S) QA' X) X := by cases r <;> rfl
@[simp] theorem OkE_bindB {r : RE} {f : D → Sto → RB} : OkB (r.bindB f) QB' X = OkE r (fun d S => OkB (f d S) QB' X) X := by cases r <;> rfl
@[simp] theorem OkE_bindS {r : RE} {f : D → Sto → RS'} : OkS (r.bindS e f) P = OkE r (fun d S => OkS (f d S) P) (fun c S => P.ex c e S) := by cases r <;> rfl
@[simp] theorem OkA_bind {r : RA} {f : List D → Sto → RE} : OkE (r.bind f) Q X = OkA r (fun d S => OkE (f d S) Q X) X := by cases r <;> rfl
@[simp] theorem OkA_bindA {r : RA} {f : List D → Sto → RA} : OkA (r.bindA f) QA' X = OkA r (fun d S => OkA (f d S) QA' X) X := by cases r <;> rfl
@[simp] theorem OkB_bind {r : RB} {f : Bool → Sto → RE} : OkE (r.bind f) Q X = OkB r (fun d S => OkE (f d S) Q X) X := by cases r <;> rfl
@[simp] theorem OkB_bindB {r : RB} {f : Bool → Sto → RB} : OkB (r.bindB f) QB' X = OkB r (fun d S => OkB (f d S) QB' X) X := by cases r <;> rfl
@[simp] theorem OkB_bindS {r : RB} {f : Bool → Sto → RS'} : OkS (r.bindS e f) P = OkB r (fun d S => OkS (f d S) P) (fun c S => P.ex c e S) := by cases r <;> rfl
@[simp] theorem OkS_bind {r : RS'} {f : En → Sto → RS'} : OkS (r.bind f) P = OkS r ⟨fun e S => OkS (f e S) P, P.rt, P.bk, P.ct, P.ex⟩ := by cases r <;> rfl
theorem OkE_opt {o : Option D} : OkE (opt o S) Q X = ∃ d, o = some d ∧ Q d S := by cases o <;> simp [opt]
theorem OkE.mono {r : RE} {Q' : QE} {X' : QX} (h : OkE r Q X) (k : ∀ d S, Q d S → Q' d S) (kx : ∀ c S, X c S → X' c S) : OkE r Q' X' := by
  cases r with
  | ok d S => exact k _ _ h
  | exc c S => exact kx _ _ h
  | bad => exact h
theorem OkE.imp {r : RE} {Q' : QE} (h : OkE r Q X) (k : ∀ d S, Q d S → Q' d S) : OkE r Q' X := h.mono k fun _ _ h => h
theorem OkE.of {r : RE} {Q' : QE} (h : OkE r Q noX) (k : ∀ d S, Q d S → Q' d S) : OkE r Q' X := h.mono k fun _ _ h => h.elim
theorem OkE.eq {r : RE} (h : OkE r Q noX) : ∃ d S, r = .ok d S ∧ Q d S := by
  cases r with
  | ok d S => exact ⟨d, S, rfl, h⟩
  | exc c S => exact h.elim
  | bad => exact h.elim
theorem OkE.of_eq {r : RE} (e : r = .ok d S) (h : Q d S) : OkE r Q X := by rw [e]; exact h
theorem OkS.imp {r : RS'} {P' : PO} (h : OkS r P) (h1 : ∀ e S, P.nx e S → P'.nx e S) (h2 : ∀ d S, P.rt d S → P'.rt d S) (h3 : ∀ e S, P.bk e S → P'.bk e S) (h4 : ∀ e S, P.ct e S → P'.ct e S) (h5 : ∀ c e S, P.ex c e S → P'.ex c e S) : OkS r P' := by
  cases r with
  | bad => exact h
  | nx e S => exact h1 _ _ h
  | ret d S => exact h2 _ _ h
  | brk e S => exact h3 _ _ h
  | cont e S => exact h4 _ _ h
  | exc c e S => exact h5 _ _ _ h
theorem OkE_fnK {N : Nat} {body : MS} : OkE (fnK N body ds S) Q X = OkS (body (ds.map some ++ List.replicate (N - ds.length) none) S) ⟨fun _ S' => Q .non S', Q, fun _ _ => False, fun _ _ => False, fun c _ S' => X c S'⟩ := by
  unfold fnK
  cases body (ds.map some ++ List.replicate (N - ds.length) none) S <;> rfl
theorem OkE_fnD {N : Nat} {body : MS} : OkE (fnD N body ds S) Q X = OkE (fnK N body ds S) (fun d S' => (low S.length (still S.length S' d) = true ∧ (S'.take S.length).all (lowC S.length) = true) ∧ Q (still S.length S' d) (S'.take S.length)) (fun c S' => (S'.take S.length).all (lowC S.length) = true ∧ X c (S'.take S.length)) := by
  unfold fnD
  cases fnK N body ds S with
  | bad => rfl
  | ok d S' =>
    simp only [OkE_ok]
    split
    · rename_i h; exact propext ⟨fun z => ⟨h, z⟩, fun z => z.2⟩
    · rename_i h; exact propext ⟨fun z => z.elim, fun z => absurd z.1 h⟩
  | exc c S' =>
    simp only [OkE_exc]
    split
    · rename_i h; exact propext ⟨fun z => ⟨h, z⟩, fun z => z.2⟩
    · rename_i h; exact propext ⟨fun z => z.elim, fun z => absurd z.1 h⟩
mutual
theorem cl_low {k : Nat} : ∀ {d : D}, cl d = true → low k d = true
    | .non, _ => rfl
    | .bl _, _ => rfl
    | .int _, _ => rfl
    | .str _, _ => rfl
    | .tup ds, h => cls_lows (ds := ds) h
    | .lst ds, h => cls_lows (ds := ds) h
    | .dct _ ds, h => cls_lows (ds := ds) h
    | .obj _, h => by cases h
    | .scr ds, h => cls_lows (ds := ds) h
theorem cls_lows {k : Nat} : ∀ {ds : List D}, cls ds = true → lows k ds = true
    | [], _ => rfl
    | d :: ds, h => by
      rw [cls, Bool.and_eq_true] at h
      rw [lows, cl_low h.1, cls_lows h.2]; rfl
end
/-- a function of a store without cells -/
theorem OkE_fn0 {N : Nat} {body : MS} (h : OkE (fnK N body ds []) (fun d S => cl d = true ∧ Q d []) X) (hx : ∀ c S, X c S → X c []) : OkE (fnD N body ds []) Q X := by
  rw [OkE_fnD]
  refine h.mono (fun d S' hd => ?_) fun c S hc => ⟨by simp, by simpa using hx c S hc⟩
  obtain ⟨h1, h2⟩ := hd
  have hl : ∀ d : D, cl d = true → low 0 d = true := clow
  have hs : still 0 S' d = d := by cases d <;> first | rfl | cases h1
  simp only [List.length_nil, List.take_zero, hs]
  exact ⟨⟨hl d h1, rfl⟩, h2⟩
where
  clow : ∀ d : D, cl d = true → low 0 d = true := by
    intro d
    exact go d
  go : ∀ d : D, cl d = true → low 0 d = true
    | .non, _ => rfl
    | .bl _, _ => rfl
    | .int _, _ => rfl
    | .str _, _ => rfl
    | .tup ds, h => gos ds h
    | .lst ds, h => gos ds h
    | .dct _ ds, h => gos ds h
    | .obj _, h => by cases h
    | .scr ds, h => gos ds h
  gos : ∀ ds : List D, cls ds = true → lows 0 ds = true
    | [], _ => rfl
    | d :: ds, h => by
      rw [cls, Bool.and_eq_true] at h
      rw [lows, go d h.1, gos ds h.2]; rfl

/-! ### loops -/
theorem OkS_for {C : Sto → Prop} {tg : MTg} {body : MS} (I : Nat → En → Sto → Prop) : ∀ {ds : List D} {k : Nat} {e : En} {S : Sto}, I k e S → (∀ i d e S, ds[i]? = some d → I (k + i) e S → C S ∧ ∃ e1, tg d e = some e1 ∧ OkS (body e1 S) ⟨I (k + i + 1), P.rt, P.nx, I (k + i + 1), P.ex⟩) →
    (∀ e S, I (k + ds.length) e S → C S ∧ P.nx e S) → OkS (forD C tg body ds e S) P
  | [], k, e, S, h0, _, hd => by
    unfold forD
    rw [if_pos (hd e S h0).1]
    exact (hd e S h0).2
  | d :: ds, k, e, S, h0, h, hd => by
    obtain ⟨hC, e1, h1, h2⟩ := h 0 d e S rfl h0
    unfold forD
    rw [if_pos hC, h1]
    simp only
    have ih := fun e2 S2 (p2 : I (k + 1) e2 S2) => OkS_for (C := C) (tg := tg) (body := body) I (ds := ds) (k := k + 1) (e := e2) (S := S2) p2 (fun i d' e' S' hi p' => by
      have := h (i + 1) d' e' S' (by simpa using hi) (by rw [show k + (i + 1) = k + 1 + i by omega]; exact p')
      rw [show k + (i + 1) + 1 = k + 1 + i + 1 by omega] at this
      exact this) (fun e' S' p' => hd e' S' (by rw [show k + (d :: ds).length = k + 1 + ds.length by simp; omega]; exact p'))
    cases q : body e1 S with
    | nx e2 S2 => rw [q] at h2; exact ih e2 S2 h2
    | cont e2 S2 => rw [q] at h2; exact ih e2 S2 h2
    | brk e2 S2 => rw [q] at h2; exact h2
    | ret d2 S2 => rw [q] at h2; exact h2
    | exc c e2 S2 => rw [q] at h2; exact h2
    | bad => rw [q] at h2; exact h2.elim
theorem OkS_sFor {it : ME} {tg : MTg} {body : MS} : OkS (sFor it tg body e S) P = OkE (it e S) (fun d S1 => OkS (match items S1 d with | some ds => forD (fun S' => view S' d = view S1 d) tg body ds e S1 | none => .bad) P) (fun c S => P.ex c e S) := by
  rw [sFor_ap, OkE_bindS]
  all_goals rfl
theorem OkS_sForR {it : ME} {tg : MTg} {body : MS} : OkS (sForR it tg body e S) P = OkE (it e S) (fun d S1 => OkS (match d with | .int n => if -(2 ^ 62) ≤ n ∧ n < 2 ^ 62 then forD (fun _ => True) tg body (rng 0 n.toNat) e S1 else .bad | _ => .bad) P) (fun c S => P.ex c e S) := by
  rw [sForR_ap, OkE_bindS]
  all_goals rfl
theorem OkS_sForG {it : MA} {tg : MTg} {body : MS} : OkS (sForG it tg body e S) P = OkA (it e S) (fun d S1 => OkS (match rgs d with | some (lo, n) => forD (fun _ => True) tg body (rng lo n) e S1 | none => .bad) P) (fun c S => P.ex c e S) := by
  unfold sForG
  cases it e S <;> rfl
theorem OkE_eLc {it el : ME} {tg : MTg} {tt : MB} {own : List Nat} : OkE (eLc it tg tt el own e S) Q X = OkE (it e S) (fun d S1 => OkE (match items S1 d with | some ds => lcD (fun S' => view S' d = view S1 d) tg tt el (wipeE e own) ds [] S1 | none => .bad) Q X) X := by
  rw [eLc_ap, OkE_bind]
  all_goals rfl
theorem OkE_eLcG {it : MA} {el : ME} {tg : MTg} {tt : MB} {own : List Nat} : OkE (eLcG it tg tt el own e S) Q X = OkA (it e S) (fun d S1 => OkE (match rgs d with | some (lo, n) => lcD (fun _ => True) tg tt el (wipeE e own) (rng lo n) [] S1 | none => .bad) Q X) X := by
  unfold eLcG
  cases it e S <;> rfl
theorem OkE_lc {C : Sto → Prop} {tg : MTg} {tt : MB} {el : ME} {e0 : En} (J : Nat → List D → Sto → Prop) : ∀ {ds : List D} {k : Nat} {acc : List D} {S : Sto}, J k acc S → acc.length + ds.length ≤ 16777216 →
    (∀ i d acc S, ds[i]? = some d → J (k + i) acc S → C S ∧ ∃ e1, tg d e0 = some e1 ∧ OkB (tt e1 S) (fun b S1 => (b = true → OkE (el e1 S1) (fun x S2 => J (k + i + 1) (acc ++ [x]) S2) noX) ∧ (b = false → J (k + i + 1) acc S1)) noX) →
    (∀ acc S, J (k + ds.length) acc S → C S ∧ Q (.lst acc) S) → OkE (lcD C tg tt el e0 ds acc S) Q X
  | [], k, acc, S, h0, _, _, hd => by
    unfold lcD
    rw [if_pos (hd acc S h0).1]
    exact (hd acc S h0).2
  | d :: ds, k, acc, S, h0, hl, h, hd => by
    obtain ⟨hC, e1, h1, h2⟩ := h 0 d acc S rfl h0
    rw [List.length_cons] at hl
    unfold lcD
    rw [if_pos hC, h1]
    simp only
    have ih := fun acc2 S2 (p2 : J (k + 1) acc2 S2) (hl2 : acc2.length + ds.length ≤ 16777216) => OkE_lc (C := C) (tg := tg) (tt := tt) (el := el) (e0 := e0) J (ds := ds) (k := k + 1) (acc := acc2) (S := S2) p2 hl2 (fun i d' a' S' hi p' => by
      have := h (i + 1) d' a' S' (by simpa using hi) (by rw [show k + (i + 1) = k + 1 + i by omega]; exact p')
      rw [show k + (i + 1) + 1 = k + 1 + i + 1 by omega] at this
      exact this) (fun e' S' p' => hd e' S' (by rw [show k + (d :: ds).length = k + 1 + ds.length by simp; omega]; exact p'))
    cases q : tt e1 S with
    | bad => rw [q] at h2; exact h2.elim
    | exc c S2 => rw [q] at h2; exact h2.elim
    | ok b S1 =>
      rw [q] at h2
      cases b with
      | false => exact ih acc S1 (h2.2 rfl) (by omega)
      | true =>
        simp only
        have h3 := h2.1 rfl
        cases q2 : el e1 S1 with
        | bad => rw [q2] at h3; exact h3.elim
        | exc c S2 => rw [q2] at h3; exact h3.elim
        | ok x S2 =>
          rw [q2] at h3
          simp only
          rw [if_pos (by omega)]
          exact ih _ S2 h3 (by rw [List.length_append]; simp; omega)
theorem OkS_wh {c : MB} {body : MS} (I : Nat → En → Sto → Prop) (h : ∀ n e S, I n e S → OkB (c e S) (fun k S1 => (k = true → OkS (body e S1) ⟨fun e S => ∃ m, m < n ∧ I m e S, P.rt, P.nx, fun e S => ∃ m, m < n ∧ I m e S, P.ex⟩) ∧ (k = false → P.nx e S1)) (fun x S => P.ex x e S)) {n : Nat} (h0 : I n e S) : OkS (sWh c body e S) P := by
  suffices H : ∀ n e S, I n e S → OkS (whD c body (n + 1) e S) P by
    have h1 := H n e S h0
    rw [sWh_of (n := n + 1) rfl (by intro z; rw [z] at h1; exact h1)]
    exact h1
  intro n
  induction n using Nat.strongRecOn with
  | ind n ih =>
    intro e S hI
    have h1 := h n e S hI
    rw [whD, OkB_bindS]
    cases q : c e S with
    | bad => rw [q] at h1; exact h1
    | exc x S1 => rw [q] at h1; exact h1
    | ok k S1 =>
      rw [q] at h1
      rw [OkB_ok] at h1 ⊢
      cases k with
      | false => rw [if_neg (by decide)]; exact h1.2 rfl
      | true =>
        rw [if_pos rfl]
        have h2 := h1.1 rfl
        have go : ∀ e2 S2, (∃ m, m < n ∧ I m e2 S2) → OkS (whD c body n e2 S2) P := fun e2 S2 ⟨m, hm, hI2⟩ => by
          have h3 := ih m hm e2 S2 hI2
          rw [whD_le (n := m + 1) (m := n) (by intro z; rw [z] at h3; exact h3) hm]
          exact h3
        cases q2 : body e S1 with
        | bad => rw [q2] at h2; exact h2.elim
        | nx e2 S2 => rw [q2] at h2; exact go e2 S2 h2
        | cont e2 S2 => rw [q2] at h2; exact go e2 S2 h2
        | brk e2 S2 => rw [q2] at h2; exact h2
        | ret d S2 => rw [q2] at h2; exact h2
        | exc x e2 S2 => rw [q2] at h2; exact h2

/-! ### calls -/
theorem OkE_eCall {m : MF} {xs : MA} {n : Nat} : OkE (eCall' n m xs e S) Q X = OkA (xs e S) (fun ds S1 => OkE (if ds.length = n then callS m ds S1 else .bad) Q X) X := by
  rw [eCall_ap, OkA_bind]
theorem cl_flat {d : D} (h : cl d = true) : flatO d = true ∧ (∀ f, mapO f d = d) ∧ (∀ js, inj1 js d = true) := by
  cases d <;> first | exact ⟨h, fun _ => rfl, fun _ => rfl⟩ | cases h
/-- a call with no cell -/
theorem OkE_call0 {m : MF} (h : ds.all cl = true) (hm : OkE (m ds []) (fun d S' => S' = [] ∧ cl d = true ∧ Q d S) (fun c S' => S' = [] ∧ X c S)) : OkE (callS m ds S) Q X := by
  rw [call_none h]
  cases q : m ds [] with
  | bad => rw [q] at hm; exact hm
  | exc c S2 =>
    rw [q] at hm
    obtain ⟨rfl, h2⟩ := hm
    simpa using h2
  | ok d S2 =>
    rw [q] at hm
    obtain ⟨rfl, h2, h3⟩ := hm
    obtain ⟨h4, h5, _⟩ := cl_flat h2
    simpa [h4, h5] using h3
/-- .. that hands back cells -/
theorem OkE_call0K {m : MF} (h : ds.all cl = true) (hm : OkE (m ds []) (fun d S' => flatO d = true ∧ S'.all okC = true ∧ Q (mapO (outN [] S.length) d) (back [] S S')) noX) : OkE (callS m ds S) Q X := by
  rw [call_none h]
  cases q : m ds [] with
  | bad => rw [q] at hm; exact hm
  | exc c S2 => rw [q] at hm; exact hm.elim
  | ok d S2 =>
    rw [q] at hm
    obtain ⟨h1, h2, h3⟩ := hm
    simp only
    rw [h1, h2]
    exact h3
/-- .. with one -/
theorem OkE_call1 {m : MF} {k : Nat} {cc : Cell} (hk : S[k]? = some cc) (ht : tops ds = [k]) (hf : ds.all flatO = true) (hc : okC cc = true) (hki : kids cc = []) (hin : inC [k] cc = true) (hmp : mapC [k].idxOf cc = cc)
    (hm : OkE (m (ds.map (mapO [k].idxOf)) [cc]) (fun d S' => ∃ c', S' = [c'] ∧ okC c' = true ∧ (∀ f, mapC f c' = c') ∧ cl d = true ∧ Q d (S.set k c')) (fun c S' => ∃ c', S' = [c'] ∧ okC c' = true ∧ (∀ f, mapC f c' = c') ∧ X c (S.set k c'))) : OkE (callS m ds S) Q X := by
  have hl : k < S.length := (List.getElem?_eq_some_iff.mp hk).1
  have hclo : clo S 100 [k] [] = [k] := by
    simp [clo, hk, hki]
  have hinj : ds.all (inj1 [k]) = true := List.all_eq_true.mpr fun d hd => by
    cases d with
    | obj n =>
      have : n ∈ tops ds := List.mem_filterMap.mpr ⟨_, hd, rfl⟩
      rw [ht, List.mem_singleton] at this
      subst this
      simp [inj1]
    | _ => rfl
  have hg : S.getD k (.lst []) = cc := by rw [List.getD_eq_getElem?_getD, hk]; rfl
  have hb : ∀ c', (∀ f, mapC f c' = c') → back [k] S [c'] = S.set k c' := fun c' hc' => by
    unfold back
    refine List.ext_getElem? fun i => ?_
    simp only [List.length_singleton, List.drop_succ_cons, List.drop_nil, List.map_nil, List.append_nil, List.getElem?_mapIdx]
    by_cases hi : k = i
    · subst hi
      rw [List.getElem?_set_self hl, hk]
      simp [hc']
    · rw [List.getElem?_set_ne hi]
      cases S[i]? with
      | none => rfl
      | some c => simp [Ne.symm hi]
  unfold callS callJ
  rw [ht, hclo]
  have hgc : goodC [k] S k = true := by unfold goodC; rw [hk]; simp [hc, hin]
  simp only [hinj, hf, List.all_cons, List.all_nil, hgc, List.map_cons, List.map_nil, hg, hmp]
  rw [if_pos (by simp)]
  cases q : m (ds.map (mapO [k].idxOf)) [cc] with
  | bad => rw [q] at hm; exact hm
  | exc c S2 =>
    rw [q] at hm
    obtain ⟨c', rfl, h1, h2, h3⟩ := hm
    simp [h1, hb c' h2, h3]
  | ok d S2 =>
    rw [q] at hm
    obtain ⟨c', rfl, h1, h2, h3, h4⟩ := hm
    obtain ⟨h5, h6, _⟩ := cl_flat h3
    simp [h1, hb c' h2, h4, h5, h6]
/-- .. with one list -/
theorem OkE_callL {m : MF} {k : Nat} {xs : List D} (hk : S[k]? = some (.lst xs)) (ht : tops ds = [k]) (hf : ds.all flatO = true) (hc : cls xs = true)
    (hm : OkE (m (ds.map (mapO [k].idxOf)) [.lst xs]) (fun d S' => ∃ ys, S' = [.lst ys] ∧ cls ys = true ∧ cl d = true ∧ Q d (S.set k (.lst ys))) (fun c S' => ∃ ys, S' = [.lst ys] ∧ cls ys = true ∧ X c (S.set k (.lst ys)))) : OkE (callS m ds S) Q X :=
  OkE_call1 hk ht hf hc rfl rfl rfl (hm.mono (fun d S' ⟨ys, h1, h2, h3, h4⟩ => ⟨.lst ys, h1, h2, fun _ => rfl, h3, h4⟩) fun c S' ⟨ys, h1, h2, h3⟩ => ⟨.lst ys, h1, h2, fun _ => rfl, h3⟩)
end
end DL

/-! The data layer: rules, step by step. -/
namespace DL
open PySem PySem.Spec PyProof.Rows L2
def Cond (b : Bool) (p q : Prop) : Prop := (b = true → p) ∧ (b = false → q)
section
variable {Q : QE} {QL : QA} {QT : QB} {X : QX} {P : PO} {d : D} {ds : List D} {b : Bool} {S : Sto} {c : Str} {e : En} {i n : Nat}
variable {a b' c' : ME} {g g' : Sto → D → D → Option D} {h : Sto → D → Option D} {gl : Sto → List D → Option D} {ma mr : MA} {t u : MB} {sa sb : MS} {m : MF} {tg : MTg} {x y : D}
theorem k_v (h1 : e[i]? = some (some d)) (k : Q d S) : OkE (eV i e S) Q X := by rw [eV_ap, h1]; exact k
theorem k_c (k : Q d S) : OkE (eC d e S) Q X := k
theorem k_2 (k : OkE (a e S) (fun x S1 => OkE (b' e S1) (fun y S2 => OkE (opt (g S2 x y) S2) Q X) X) X) : OkE (e2 g a b' e S) Q X := by
  rw [e2_ap, OkE_bind]; simpa only [OkE_bind] using k
theorem k_1 (k : OkE (a e S) (fun x S1 => OkE (opt (h S1 x) S1) Q X) X) : OkE (e1 h a e S) Q X := by rw [e1_ap, OkE_bind]; exact k
theorem k_opt {o : Option D} (h1 : o = some d) (k : Q d S) : OkE (opt o S) Q X := by rw [h1]; exact k
theorem k_tup (k : OkA (ma e S) (fun xs S1 => xs.length ≤ 16777216 ∧ Q (.tup xs) S1) X) : OkE (eTup ma e S) Q X := by
  rw [eTup_ap, OkA_bind]
  revert k
  cases ma e S with
  | bad => exact _root_.id
  | exc _ _ => exact _root_.id
  | ok ds S1 => exact fun ⟨h1, h2⟩ => by rw [OkA_ok, if_pos h1]; exact h2
theorem k_lst (k : OkA (ma e S) (fun xs S1 => xs.length ≤ 16777216 ∧ Q (.lst xs) S1) X) : OkE (eLst ma e S) Q X := by
  rw [eLst_ap, OkA_bind]
  revert k
  cases ma e S with
  | bad => exact _root_.id
  | exc _ _ => exact _root_.id
  | ok ds S1 => exact fun ⟨h1, h2⟩ => by rw [OkA_ok, if_pos h1]; exact h2
theorem k_new (k : OkA (ma e S) (fun xs S1 => xs.length ≤ 16777216 ∧ Q (.obj S1.length) (S1 ++ [.lst xs])) X) : OkE (eNew ma e S) Q X := by
  rw [eNew_ap, OkA_bind]
  revert k
  cases ma e S with
  | bad => exact _root_.id
  | exc _ _ => exact _root_.id
  | ok ds S1 => exact fun ⟨h1, h2⟩ => by rw [OkA_ok, if_pos h1]; exact h2
theorem k_aN (k : QL [] S) : OkA (aN e S) QL X := k
theorem k_aC (k : OkE (a e S) (fun x S1 => OkA (mr e S1) (fun xs S2 => QL (x :: xs) S2) X) X) : OkA (aC a mr e S) QL X := by
  rw [aC_ap, OkE_bindA]; simpa only [OkA_bindA, OkA_ok] using k
theorem k_B (k : OkA (ma e S) (fun xs S1 => OkE (opt (gl S1 xs) S1) Q X) X) : OkE (eB gl ma e S) Q X := by rw [eB_ap, OkA_bind]; exact k
theorem k_call (k : OkA (ma e S) (fun ds S1 => ds.length = n ∧ OkE (callS m ds S1) Q X) X) : OkE (eCall' n m ma e S) Q X := by
  rw [OkE_eCall]
  revert k
  cases ma e S with
  | bad => exact _root_.id
  | exc _ _ => exact _root_.id
  | ok ds S1 => exact fun ⟨h1, h2⟩ => by rw [OkA_ok, if_pos h1]; exact h2
theorem k_if (k : OkB (t e S) (fun x S1 => Cond x (OkE (a e S1) Q X) (OkE (b' e S1) Q X)) X) : OkE (eIf t a b' e S) Q X := by
  rw [eIf_ap, OkB_bind]
  revert k
  cases t e S with
  | bad => exact _root_.id
  | exc _ _ => exact _root_.id
  | ok x S1 =>
    cases x with
    | true => exact fun k => k.1 rfl
    | false => exact fun k => k.2 rfl
theorem k_no (k : OkE (a e S) (fun x S1 => ∃ z, x = .bl z ∧ Q (.bl (!z)) S1) X) : OkE (eNo a e S) Q X := by
  rw [eNo_ap, OkE_bind]
  revert k
  cases a e S with
  | bad => exact _root_.id
  | exc _ _ => exact _root_.id
  | ok x S1 => exact fun ⟨z, e1, k⟩ => by rw [OkE_ok, e1]; exact k
theorem k_an (k : OkE (a e S) (fun x S1 => ∃ z, x = .bl z ∧ Cond z (OkE (b' e S1) Q X) (Q (.bl false) S1)) X) : OkE (eAn a b' e S) Q X := by
  rw [eAn_ap, OkE_bind]
  revert k
  cases a e S with
  | bad => exact _root_.id
  | exc _ _ => exact _root_.id
  | ok x S1 =>
    rintro ⟨z, e1, k⟩
    rw [OkE_ok, e1]
    cases z with
    | true => exact k.1 rfl
    | false => exact k.2 rfl
theorem k_o (k : OkE (a e S) (fun x S1 => ∃ z, x = .bl z ∧ Cond z (Q (.bl true) S1) (OkE (b' e S1) Q X)) X) : OkE (eO a b' e S) Q X := by
  rw [eO_ap, OkE_bind]
  revert k
  cases a e S with
  | bad => exact _root_.id
  | exc _ _ => exact _root_.id
  | ok x S1 =>
    rintro ⟨z, e1, k⟩
    rw [OkE_ok, e1]
    cases z with
    | true => exact k.1 rfl
    | false => exact k.2 rfl
theorem k_3 (k : OkE (a e S) (fun x S1 => OkE (b' e S1) (fun y S2 => ∃ z, g S2 x y = some (.bl z) ∧ Cond z (OkE (c' e S2) (fun w S3 => OkE (opt (g' S3 y w) S3) Q X) X) (Q (.bl false) S2)) X) X) : OkE (e3 g g' a b' c' e S) Q X := by
  rw [e3_ap, OkE_bind]
  revert k
  cases a e S with
  | bad => exact _root_.id
  | exc _ _ => exact _root_.id
  | ok x S1 =>
    intro k
    rw [OkE_ok] at k ⊢
    rw [OkE_bind]
    revert k
    cases b' e S1 with
    | bad => exact _root_.id
    | exc _ _ => exact _root_.id
    | ok y S2 =>
      rintro ⟨z, e1, k⟩
      rw [OkE_ok, e1]
      cases z with
      | true => simpa only [OkE_bind] using k.1 rfl
      | false => exact k.2 rfl
theorem k_tOf (k : OkE (a e S) (fun x S1 => ∃ z, x = .bl z ∧ QT z S1) X) : OkB (tOf a e S) QT X := by
  rw [tOf_ap, OkE_bindB]
  revert k
  cases a e S with
  | bad => exact _root_.id
  | exc _ _ => exact _root_.id
  | ok x S1 => exact fun ⟨z, e1, k⟩ => by rw [OkE_ok, e1]; exact k
theorem k_tNo (k : OkB (t e S) (fun x S1 => QT (!x) S1) X) : OkB (tNo t e S) QT X := by rw [tNo_ap, OkB_bindB]; exact k
theorem k_tYs (k : QT true S) : OkB (tYs e S) QT X := k
theorem k_tAn (k : OkB (t e S) (fun x S1 => Cond x (OkB (u e S1) QT X) (QT false S1)) X) : OkB (tAn t u e S) QT X := by
  rw [tAn_ap, OkB_bindB]
  revert k
  cases t e S with
  | bad => exact _root_.id
  | exc _ _ => exact _root_.id
  | ok x S1 =>
    cases x with
    | true => exact fun k => k.1 rfl
    | false => exact fun k => k.2 rfl
theorem k_tO (k : OkB (t e S) (fun x S1 => Cond x (QT true S1) (OkB (u e S1) QT X)) X) : OkB (tO t u e S) QT X := by
  rw [tO_ap, OkB_bindB]
  revert k
  cases t e S with
  | bad => exact _root_.id
  | exc _ _ => exact _root_.id
  | ok x S1 =>
    cases x with
    | true => exact fun k => k.1 rfl
    | false => exact fun k => k.2 rfl
/-- a test whose answer is known -/
theorem k_tEq (h1 : t e S = .ok b S) (k : QT b S) : OkB (t e S) QT X := by rw [h1]; exact k
theorem k_sl2 (k : OkE (a e S) (fun x S1 => OkE (b' e S1) (fun i S2 => isPart i = true ∧ OkE (c' e S2) (fun j S3 => isPart j = true ∧ OkE (opt (gSl (part i) (part j) S3 x) S3) Q X) X) X) X) : OkE (eSl2 a b' c' e S) Q X := by
  rw [eSl2_ap, OkE_bind]
  refine k.imp fun x S1 k => ?_
  rw [OkE_bind]
  refine k.imp fun i S2 ⟨h1, k⟩ => ?_
  rw [if_pos h1, OkE_bind]
  refine k.imp fun j S3 ⟨h2, k⟩ => ?_
  rw [if_pos h2]; exact k
theorem k_slL (k : OkE (a e S) (fun x S1 => OkE (b' e S1) (fun i S2 => isPart i = true ∧ OkE (opt (gSl (part i) none S2 x) S2) Q X) X) X) : OkE (eSlL a b' e S) Q X := by
  rw [eSlL_ap, OkE_bind]
  refine k.imp fun x S1 k => ?_
  rw [OkE_bind]
  refine k.imp fun i S2 ⟨h1, k⟩ => ?_
  rw [if_pos h1]; exact k
theorem k_slH (k : OkE (a e S) (fun x S1 => OkE (b' e S1) (fun i S2 => isPart i = true ∧ OkE (opt (gSl none (part i) S2 x) S2) Q X) X) X) : OkE (eSlH a b' e S) Q X := by
  rw [eSlH_ap, OkE_bind]
  refine k.imp fun x S1 k => ?_
  rw [OkE_bind]
  refine k.imp fun i S2 ⟨h1, k⟩ => ?_
  rw [if_pos h1]; exact k
theorem k_app (k : OkE (a e S) (fun o S1 => isL S1 o = true ∧ OkE (b' e S1) (fun d S2 => OkE (appI S2 o d) Q X) X) X) : OkE (eApp a b' e S) Q X := by
  rw [eApp_ap, OkE_bind]
  refine k.imp fun x S1 ⟨h1, k⟩ => ?_
  rw [if_pos h1, OkE_bind]
  exact k
theorem k_ext (k : OkE (a e S) (fun o S1 => isL S1 o = true ∧ OkE (b' e S1) (fun d S2 => OkE (extI S2 o d) Q X) X) X) : OkE (eExt a b' e S) Q X := by
  unfold eExt
  rw [OkE_bind]
  refine k.imp fun x S1 ⟨h1, k⟩ => ?_
  rw [if_pos h1, OkE_bind]
  exact k
theorem k_appI {ds : List D} (h1 : S[n]? = some (.lst ds)) (h2 : ds.length < 16777216) (k : Q .non (S.set n (.lst (ds ++ [d])))) : OkE (appI S (.obj n) d) Q X := by
  unfold appI; simp only [h1]; rw [if_pos h2]; exact k
theorem k_extI {ds zs : List D} (h1 : S[n]? = some (.lst ds)) (h3 : view S d = .lst zs) (h4 : noS d = true) (h2 : ds.length + zs.length ≤ 16777216) (k : Q .non (S.set n (.lst (ds ++ zs)))) : OkE (extI S (.obj n) d) Q X := by
  unfold extI; simp only [h1, h3]; rw [if_pos ⟨h2, h4⟩]; exact k
theorem k_isL {ds : List D} (h1 : S[n]? = some (.lst ds)) : isL S (.obj n) = true := by unfold isL; simp only [h1]
theorem k_bk {mk : MA} {gk : Sto → List D → List D → Option D} (k : OkA (ma e S) (fun ds S1 => OkA (mk e S1) (fun zs S2 => OkE (opt (gk S2 ds zs) S2) Q X) X) X) : OkE (eBK gk ma mk e S) Q X := by
  unfold eBK
  rw [OkA_bind]; simpa only [OkA_bind] using k
/-! ### statements -/
theorem k_pass (k : P.nx e S) : OkS (sPass e S) P := k
theorem k_seq (k : OkS (sa e S) ⟨fun e S => OkS (sb e S) P, P.rt, P.bk, P.ct, P.ex⟩) : OkS (sSeq sa sb e S) P := by rw [sSeq_ap, OkS_bind]; exact k
theorem k_set (k : OkE (a e S) (fun d S1 => P.nx (e.set i (some d)) S1) (fun c S => P.ex c e S)) : OkS (sSet i a e S) P := by rw [sSet_ap, OkE_bindS]; exact k
theorem k_ex (k : OkE (a e S) (fun _ S1 => P.nx e S1) (fun c S => P.ex c e S)) : OkS (sEx a e S) P := by rw [sEx_ap, OkE_bindS]; exact k
theorem k_ret (k : OkE (a e S) P.rt (fun c S => P.ex c e S)) : OkS (sRet a e S) P := by rw [sRet_ap, OkE_bindS]; exact k
theorem k_retN (k : P.rt .non S) : OkS (sRetN e S) P := k
theorem k_sIf (k : OkB (t e S) (fun x S1 => Cond x (OkS (sa e S1) P) (OkS (sb e S1) P)) (fun c S => P.ex c e S)) : OkS (sIf t sa sb e S) P := by
  rw [sIf_ap, OkB_bindS]
  revert k
  cases t e S with
  | bad => exact _root_.id
  | exc _ _ => exact _root_.id
  | ok x S1 =>
    cases x with
    | true => exact fun k => k.1 rfl
    | false => exact fun k => k.2 rfl
theorem k_brk (k : P.bk e S) : OkS (sBrk e S) P := k
theorem k_cont (k : P.ct e S) : OkS (sCont e S) P := k
theorem k_asg (k : OkE (a e S) (fun d S1 => ∃ e', tg d e = some e' ∧ P.nx e' S1) (fun c S => P.ex c e S)) : OkS (sAsg tg a e S) P := by
  rw [sAsg_ap, OkE_bindS]
  refine k.imp fun d S1 ⟨e', h1, k⟩ => ?_
  rw [h1]; exact k
theorem k_setI (k : OkE (c' e S) (fun d S1 => OkE (a e S1) (fun o S2 => OkE (b' e S2) (fun i S3 => OkS (putI S3 e o i d) P) (fun c S => P.ex c e S)) (fun c S => P.ex c e S)) (fun c S => P.ex c e S)) : OkS (sSetI a b' c' e S) P := by
  rw [sSetI_ap, OkE_bindS]; simpa only [OkE_bindS] using k
theorem k_putI {ds : List D} {j : Int} {k' : Nat} (h1 : S[n]? = some (.lst ds)) (h2 : ixN ds.length j = some k') (k : P.nx e (S.set n (.lst (ds.set k' d)))) : OkS (putI S e (.obj n) (.int j) d) P := by
  unfold putI; simp only [h1, h2]; exact k
theorem k_aug (h1 : e[i]? = some (some x)) (k : OkE (a e S) (fun y S1 => ∃ d, g S1 x y = some d ∧ P.nx (e.set i (some d)) S1) (fun c S => P.ex c e S)) : OkS (sAug i g a e S) P := by
  rw [sAug_ap, h1]
  simp only [OkE_bindS]
  refine k.imp fun y S1 ⟨d, h2, k⟩ => ?_
  rw [h2]; exact k
theorem k_for (k : OkE (a e S) (fun d S1 => ∃ ds, items S1 d = some ds ∧ OkS (forD (fun S' => view S' d = view S1 d) tg sa ds e S1) P) (fun c S => P.ex c e S)) : OkS (sFor a tg sa e S) P := by
  rw [OkS_sFor]
  refine k.imp fun d S1 ⟨ds, h1, k⟩ => ?_
  rw [h1]; exact k
theorem k_forR (k : OkE (a e S) (fun d S1 => ∃ n, d = .int n ∧ (-(2 ^ 62) ≤ n ∧ n < 2 ^ 62) ∧ OkS (forD (fun _ => True) tg sa (rng 0 n.toNat) e S1) P) (fun c S => P.ex c e S)) : OkS (sForR a tg sa e S) P := by
  rw [OkS_sForR]
  refine k.imp fun d S1 ⟨n, h1, h2, k⟩ => ?_
  rw [h1]
  simp only
  rw [if_pos h2]; exact k
theorem k_forG (k : OkA (ma e S) (fun d S1 => ∃ lo n, rgs d = some (lo, n) ∧ OkS (forD (fun _ => True) tg sa (rng lo n) e S1) P) (fun c S => P.ex c e S)) : OkS (sForG ma tg sa e S) P := by
  rw [OkS_sForG]
  revert k
  cases ma e S with
  | bad => exact _root_.id
  | exc _ _ => exact _root_.id
  | ok ds S1 => exact fun ⟨lo, n, h1, k⟩ => by rw [OkA_ok, h1]; exact k
theorem k_lc {own : List Nat} (k : OkE (a e S) (fun d S1 => ∃ ds, items S1 d = some ds ∧ OkE (lcD (fun S' => view S' d = view S1 d) tg t b' (wipeE e own) ds [] S1) Q X) X) : OkE (eLc a tg t b' own e S) Q X := by
  rw [OkE_eLc]
  refine k.imp fun d S1 ⟨ds, h1, k⟩ => ?_
  rw [h1]; exact k
theorem k_lcG {own : List Nat} (k : OkA (ma e S) (fun d S1 => ∃ lo n, rgs d = some (lo, n) ∧ OkE (lcD (fun _ => True) tg t b' (wipeE e own) (rng lo n) [] S1) Q X) X) : OkE (eLcG ma tg t b' own e S) Q X := by
  rw [OkE_eLcG]
  revert k
  cases ma e S with
  | bad => exact _root_.id
  | exc _ _ => exact _root_.id
  | ok ds S1 => exact fun ⟨lo, n, h1, k⟩ => by rw [OkA_ok, h1]; exact k
theorem k_gc {kill : List Nat} (k : OkS (sa e S) ⟨fun e' S' => (lowE S.length (wipeE e' kill) = true ∧ (S'.take S.length).all (lowC S.length) = true) ∧ P.nx (wipeE e' kill) (S'.take S.length), P.rt, P.bk, fun e' S' => (lowE S.length (wipeE e' kill) = true ∧ (S'.take S.length).all (lowC S.length) = true) ∧ P.ct (wipeE e' kill) (S'.take S.length), P.ex⟩) : OkS (sGC kill sa e S) P := by
  unfold sGC
  revert k
  cases sa e S with
  | nx e' S' => exact fun ⟨h1, h2⟩ => by simp only [gcS]; rw [if_pos (by rw [h1.1, h1.2]; rfl)]; exact h2
  | cont e' S' => exact fun ⟨h1, h2⟩ => by simp only [gcS]; rw [if_pos (by rw [h1.1, h1.2]; rfl)]; exact h2
  | _ => exact fun k => k
theorem k_condT {p q : Prop} (h1 : b = true) (k : p) : Cond b p q := ⟨fun _ => k, fun z => by rw [h1] at z; cases z⟩
theorem k_condF {p q : Prop} (h1 : b = false) (k : q) : Cond b p q := ⟨fun z => (by rw [h1] at z; cases z), fun _ => k⟩
theorem k_dec {p q c : Prop} [Decidable c] (k1 : c → p) (k2 : ¬ c → q) : Cond (decide c) p q := ⟨fun z => k1 (of_decide_eq_true z), fun z => k2 (of_decide_eq_false z)⟩
theorem k_ndec {p q c : Prop} [Decidable c] (k1 : ¬ c → p) (k2 : c → q) : Cond (!decide c) p q := ⟨fun z => k1 (by simpa using z), fun z => k2 (by simpa using z)⟩
/-- both sides are told -/
theorem k_anB (k : OkE (a e S) (fun x S1 => ∃ z, x = .bl z ∧ OkE (b' e S1) (fun y S2 => S2 = S1 ∧ ∃ w, y = .bl w ∧ Q (.bl (z && w)) S1) noX) X) : OkE (eAn a b' e S) Q X := by
  refine k_an (k.imp fun x S1 ⟨z, h1, k⟩ => ⟨z, h1, fun hz => ?_, fun hz => ?_⟩)
  · subst hz
    obtain ⟨y, S2, h2, rfl, w, rfl, q⟩ := k.eq
    rw [h2]; exact q
  · subst hz
    obtain ⟨y, S2, h2, rfl, w, rfl, q⟩ := k.eq
    exact q
theorem k_oB (k : OkE (a e S) (fun x S1 => ∃ z, x = .bl z ∧ OkE (b' e S1) (fun y S2 => S2 = S1 ∧ ∃ w, y = .bl w ∧ Q (.bl (z || w)) S1) noX) X) : OkE (eO a b' e S) Q X := by
  refine k_o (k.imp fun x S1 ⟨z, h1, k⟩ => ⟨z, h1, fun hz => ?_, fun hz => ?_⟩)
  · subst hz
    obtain ⟨y, S2, h2, rfl, w, rfl, q⟩ := k.eq
    exact q
  · subst hz
    obtain ⟨y, S2, h2, rfl, w, rfl, q⟩ := k.eq
    rw [h2]; exact q
theorem OkB.eq {r : RB} {QT : QB} (h : OkB r QT noX) : ∃ d S, r = .ok d S ∧ QT d S := by
  cases r with
  | ok d S => exact ⟨d, S, rfl, h⟩
  | exc c S => exact h.elim
  | bad => exact h.elim
theorem OkB.imp {r : RB} {QT' : QB} (h : OkB r QT X) (k : ∀ d S, QT d S → QT' d S) : OkB r QT' X := by
  cases r with
  | ok d S => exact k _ _ h
  | exc c S => exact h
  | bad => exact h
theorem k_tAnB (k : OkB (t e S) (fun z S1 => OkB (u e S1) (fun w S2 => S2 = S1 ∧ QT (z && w) S1) noX) X) : OkB (tAn t u e S) QT X := by
  refine k_tAn (k.imp fun z S1 k => ⟨fun hz => ?_, fun hz => ?_⟩)
  · subst hz
    obtain ⟨w, S2, h2, rfl, q⟩ := k.eq
    rw [h2]; exact q
  · subst hz
    obtain ⟨w, S2, h2, rfl, q⟩ := k.eq
    exact q
theorem k_tOB (k : OkB (t e S) (fun z S1 => OkB (u e S1) (fun w S2 => S2 = S1 ∧ QT (z || w) S1) noX) X) : OkB (tO t u e S) QT X := by
  refine k_tO (k.imp fun z S1 k => ⟨fun hz => ?_, fun hz => ?_⟩)
  · subst hz
    obtain ⟨w, S2, h2, rfl, q⟩ := k.eq
    exact q
  · subst hz
    obtain ⟨w, S2, h2, rfl, q⟩ := k.eq
    rw [h2]; exact q
theorem k_3B (k : OkE (a e S) (fun x S1 => OkE (b' e S1) (fun y S2 => ∃ z, g S2 x y = some (.bl z) ∧ OkE (c' e S2) (fun w S3 => S3 = S2 ∧ ∃ z', g' S2 y w = some (.bl z') ∧ Q (.bl (z && z')) S2) noX) X) X) : OkE (e3 g g' a b' c' e S) Q X := by
  refine k_3 (k.imp fun x S1 k => k.imp fun y S2 ⟨z, h1, k⟩ => ⟨z, h1, fun hz => ?_, fun hz => ?_⟩)
  · subst hz
    obtain ⟨w, S3, h2, rfl, z', h3, q⟩ := k.eq
    rw [h2, OkE_ok, h3]; exact q
  · subst hz
    obtain ⟨w, S3, h2, rfl, z', h3, q⟩ := k.eq
    exact q
/-- a comprehension that changes nothing -/
theorem k_lcMap {own : List Nat} {f : D → D} (k : OkE (a e S) (fun d S1 => ∃ ds, items S1 d = some ds ∧ ds.length ≤ 16777216 ∧ (∀ z ∈ ds, ∃ e1, tg z (wipeE e own) = some e1 ∧ OkE (b' e1 S1) (fun r S' => S' = S1 ∧ r = f z) noX) ∧ Q (.lst (ds.map f)) S1) X) : OkE (eLc a tg tYs b' own e S) Q X := by
  refine k_lc (k.imp fun d S1 ⟨ds, h1, h2, h3, h4⟩ => ⟨ds, h1, ?_⟩)
  rw [lcD_map (f := f) (C := fun S' => view S' d = view S1 d) rfl ds [] (fun z hz => ?_) (by simpa using h2)]
  · simpa using h4
  · obtain ⟨e1, h5, h6⟩ := h3 z hz
    obtain ⟨r, S', h7, rfl, rfl⟩ := h6.eq
    exact ⟨e1, h5, h7⟩
/-! ### functions -/
theorem k_fnK {N : Nat} {body : MS} (k : OkS (body (ds.map some ++ List.replicate (N - ds.length) none) S) ⟨fun _ S' => Q .non S', Q, fun _ _ => False, fun _ _ => False, fun c _ S' => X c S'⟩) : OkE (fnK N body ds S) Q X := by rw [OkE_fnK]; exact k
theorem k_fnD {N : Nat} {body : MS} (k : OkS (body (ds.map some ++ List.replicate (N - ds.length) none) S) ⟨fun _ S' => (S'.take S.length).all (lowC S.length) = true ∧ Q .non (S'.take S.length), fun d S' => (low S.length (still S.length S' d) = true ∧ (S'.take S.length).all (lowC S.length) = true) ∧ Q (still S.length S' d) (S'.take S.length), fun _ _ => False, fun _ _ => False, fun c _ S' => (S'.take S.length).all (lowC S.length) = true ∧ X c (S'.take S.length)⟩) : OkE (fnD N body ds S) Q X := by
  rw [OkE_fnD, OkE_fnK]
  exact k.imp (fun e S h => ⟨⟨rfl, h.1⟩, h.2⟩) (fun _ _ h => h) (fun _ _ h => h) (fun _ _ h => h) (fun _ _ _ h => h)
/-- a function of no cell that hands back none -/
theorem k_fn0 {N : Nat} {body : MS} (k : OkS (body (ds.map some ++ List.replicate (N - ds.length) none) []) ⟨fun _ S' => Q .non [], fun d S' => cl d = true ∧ Q d [], fun _ _ => False, fun _ _ => False, fun c _ S' => X c []⟩) : OkE (fnD N body ds []) Q X := by
  refine k_fnD (k.imp (fun e S h => ⟨by simp, by simpa using h⟩) (fun d S h => ?_) (fun _ _ h => h) (fun _ _ h => h) (fun _ _ S h => ⟨by simp, by simpa using h⟩))
  obtain ⟨h1, h2⟩ := h
  have hs : still 0 S d = d := by cases d <;> first | rfl | cases h1
  simp only [List.length_nil, List.take_zero, hs]
  exact ⟨⟨OkE_fn0.clow d h1, rfl⟩, h2⟩
theorem k_exe {α : Sort _} {p q : α → Prop} {w : α} (h1 : p w) (k : q w) : ∃ z, p z ∧ q z := ⟨w, h1, k⟩
theorem at_lt {α : Type} {xs : List α} {i : Int} (h0 : 0 ≤ i) (h1 : i < xs.length) : ∃ j, atI xs i = some j ∧ j ∈ xs := by
  obtain ⟨k, rfl⟩ := Int.eq_ofNat_of_zero_le h0
  have hk : k < xs.length := by omega
  refine ⟨xs[k], ?_, List.getElem_mem hk⟩
  have : ixN xs.length (k : Int) = some k := by
    unfold ixN
    simp
    omega
  unfold atI
  rw [this]
  simp [hk]
/-! ### operators -/
theorem k_addI {i j : Int} (k : Q (.int (i + j)) S) : OkE (opt (gAdd S (.int i) (.int j)) S) Q X := k
theorem k_addS {i j : Str} (h1 : i.length + j.length ≤ 16777216) (k : Q (.str (i ++ j)) S) : OkE (opt (gAdd S (.str i) (.str j)) S) Q X := by rw [gAdd_str h1]; exact k
theorem k_subI {i j : Int} (k : Q (.int (i - j)) S) : OkE (opt (gSub S (.int i) (.int j)) S) Q X := k
theorem k_eqI {i j : Int} (k : Q (.bl (decide (i = j))) S) : OkE (opt (gEq S (.int i) (.int j)) S) Q X := by rw [gEq_int]; exact k
theorem k_neI {i j : Int} (k : Q (.bl (!decide (i = j))) S) : OkE (opt (gNe S (.int i) (.int j)) S) Q X := by rw [gNe_int]; exact k
theorem k_ltI {i j : Int} (k : Q (.bl (decide (i < j))) S) : OkE (opt (gLt S (.int i) (.int j)) S) Q X := k
theorem k_leI {i j : Int} (k : Q (.bl (decide (i ≤ j))) S) : OkE (opt (gLe S (.int i) (.int j)) S) Q X := k
theorem k_gtI {i j : Int} (k : Q (.bl (decide (j < i))) S) : OkE (opt (gI iGt S (.int i) (.int j)) S) Q X := k
theorem k_geI {i j : Int} (k : Q (.bl (decide (j ≤ i))) S) : OkE (opt (gI iGe S (.int i) (.int j)) S) Q X := k
theorem k_eqS {i j : Str} (k : Q (.bl (decide (i = j))) S) : OkE (opt (gEq S (.str i) (.str j)) S) Q X := by rw [gEq_str]; exact k
theorem k_neS {i j : Str} (k : Q (.bl (!decide (i = j))) S) : OkE (opt (gNe S (.str i) (.str j)) S) Q X := by rw [gNe_str]; exact k
theorem k_mod {i j : Int} (h1 : 0 < j) (k : Q (.int (i % j)) S) : OkE (opt (gMod S (.int i) (.int j)) S) Q X := by rw [gMod_int h1]; exact k
theorem k_fdiv {i j : Int} (h1 : 0 < j) (h2 : j < 1073741824) (k : Q (.int (i / j)) S) : OkE (opt (gFdiv S (.int i) (.int j)) S) Q X := by rw [gFdiv_int h1 h2]; exact k
theorem k_mulI {i j : Int} (h1 : (-18446744073709551616 < i ∧ i < 18446744073709551616) ∨ (-18446744073709551616 < j ∧ j < 18446744073709551616)) (k : Q (.int (i * j)) S) : OkE (opt (gMul S (.int i) (.int j)) S) Q X := by rw [gMul_int h1]; exact k
theorem k_lenS {z : Str} (h1 : z.length ≤ 16777216) (k : Q (.int z.length) S) : OkE (opt (gLen S [.str z]) S) Q X := by rw [gLen_str h1]; exact k
theorem k_lenT (k : Q (.int ds.length) S) : OkE (opt (gLen S [.tup ds]) S) Q X := k
theorem k_lenL (k : Q (.int ds.length) S) : OkE (opt (gLen S [.lst ds]) S) Q X := k
theorem k_lenC (k : Q (.int ds.length) S) : OkE (opt (gLen S [.scr ds]) S) Q X := k
theorem k_ixS {z : Str} {i : Int} {j : Nat} (h1 : z.length ≤ 16777216) (h2 : atI z.cps.toList i = some j) (k : Q (.str ⟨#[j]⟩) S) : OkE (opt (gIx S (.str z) (.int i)) S) Q X := by rw [gIx_str h1, h2]; exact k
theorem k_ixT {i : Int} (h2 : atI ds i = some d) (k : Q d S) : OkE (opt (gIx S (.tup ds) (.int i)) S) Q X := by
  have : gIx S (.tup ds) (.int i) = some d := h2
  rw [this]; exact k
theorem k_ixL {i : Int} (h2 : atI ds i = some d) (k : Q d S) : OkE (opt (gIx S (.lst ds) (.int i)) S) Q X := by
  have : gIx S (.lst ds) (.int i) = some d := h2
  rw [this]; exact k
theorem k_ixO {i : Int} (h1 : S[n]? = some (.lst ds)) (h2 : atI ds i = some d) (k : Q d S) : OkE (opt (gIx S (.obj n) (.int i)) S) Q X := by
  have : gIx S (.obj n) (.int i) = some d := by unfold gIx view; simp only [h1]; exact h2
  rw [this]; exact k
theorem k_lenO (h1 : S[n]? = some (.lst ds)) (k : Q (.int ds.length) S) : OkE (opt (gLen S [.obj n]) S) Q X := by
  have : gLen S [.obj n] = some (.int ds.length) := by unfold gLen view; simp only [h1]
  rw [this]; exact k
theorem k_isi {n t : String} (h1 : tyN S d = some t) (k : Q (.bl (isi n t)) S) : OkE (opt (gIsi n S d) S) Q X := by unfold gIsi; rw [h1]; exact k
theorem k_is {z : Bool} (h1 : dis x y = some z) (k : Q (.bl z) S) : OkE (opt (gIs S x y) S) Q X := by unfold gIs; rw [h1]; exact k
theorem k_isn {z : Bool} (h1 : dis x y = some z) (k : Q (.bl (!z)) S) : OkE (opt (gIsn S x y) S) Q X := by unfold gIsn; rw [h1]; exact k
theorem k_slS {lo hi : Option Int} {z : Str} (h1 : z.length ≤ 16777216) (k : Q (.str (cutS z lo hi)) S) : OkE (opt (gSl lo hi S (.str z)) S) Q X := by rw [gSl_str h1]; exact k
theorem k_tupT (k : Q (.tup ds) S) : OkE (opt (gTuple S [.tup ds]) S) Q X := k
theorem k_tupL (k : Q (.tup ds) S) : OkE (opt (gTuple S [.lst ds]) S) Q X := k
theorem k_tupO (h1 : S[n]? = some (.lst ds)) (k : Q (.tup ds) S) : OkE (opt (gTuple S [.obj n]) S) Q X := by
  have : gTuple S [.obj n] = some (.tup ds) := by unfold gTuple view; simp only [h1]
  rw [this]; exact k
theorem k_lstL (k : Q (.lst ds) S) : OkE (opt (gList S [.lst ds]) S) Q X := k
theorem k_lstC (k : Q (.lst ds) S) : OkE (opt (gList S [.scr ds]) S) Q X := k
theorem k_lstT (k : Q (.lst ds) S) : OkE (opt (gList S [.tup ds]) S) Q X := k
end
end DL

/-! a < b of tuples whose first unlike places can be compared -/
namespace PySem.SeqAt
open AutoSeq1 (wpAny_loadPart')
open MeetsSeq MeetsSeq2 MeetsSeq3 SeqRoads2
theorem tupLt_first (a b : Addr) (us vs : Array Value) (n m : Nat) (d1 d2 : Option Addr) (s1 s2 : Array (Option Value)) (e r : Nat → Bool) :
    Meets (Builtin.«tuple.__lt__» ⟨[.ref a, .ref b], []⟩)
      (fun A R s => (s.heap.get? a = some { cls := .type "tuple", dict := d1, data := .seq us n, slots := s1 } ∧ s.heap.get? b = some { cls := .type "tuple", dict := d2, data := .seq vs m, slots := s2 }) ∧
        (∀ j (hj : j < us.size) (hk : j < vs.size), EqAt A.in1 s us[j] vs[j] (e j)) ∧ (∀ j (hj : j < us.size) (hk : j < vs.size), (∀ i, i < j → e i = true) → e j = false → RcLt A.in1 s us[j] vs[j] (r j)) ∧
        R (.ok (.ret (.bool (firstLt e r (decide (us.size < vs.size)) (List.range (min us.size vs.size)))))) s) :=
  .of_wp fun prog w A R s hyp => by
    obtain ⟨hp, g, d, tk, os⟩ := s
    obtain ⟨⟨at1, at2⟩, eqs, lts, goal⟩ := hyp
    have sub := AutoSeq1.sub_tuple_tuple
    have both : (us.toList.zip vs.toList).length = min us.size vs.size := by simp
    wp_walk using wpAny_loadPart' at1, wpAny_loadPart' at2, wpAny_forIn_list _ (fun todo st s' => st.1 = none ∧ s' = ⟨hp, g, d, tk, os⟩ ∧ ∃ i, todo = (us.toList.zip vs.toList).drop i ∧ (∀ k, k < i → e k = true) ∧
      R (.ok (.ret (.bool (firstLt e r (decide (us.size < vs.size)) ((List.range (min us.size vs.size)).drop i))))) ⟨hp, g, d, tk, os⟩) _
    case turn =>
      rintro ⟨y, x⟩ todo st s' ⟨hst, rfl, i, hz, seen, now⟩
      have here : i < (us.toList.zip vs.toList).length := by
        apply Nat.lt_of_not_le
        intro z
        rw [List.drop_of_length_le z] at hz; cases hz
      have hm : i < min us.size vs.size := both ▸ here
      have j1 : i < us.size := by omega
      have j2 : i < vs.size := by omega
      rw [List.drop_eq_getElem_cons here] at hz
      injection hz with pair more
      obtain rfl : y = us[i] := by simpa using congrArg Prod.fst pair
      obtain rfl : x = vs[i] := by simpa using congrArg Prod.snd pair
      rw [show (List.range (min us.size vs.size)).drop i = i :: (List.range (min us.size vs.size)).drop (i + 1) by simp [List.drop_eq_getElem_cons, hm]] at now
      refine wpAny_bind (eqs i j1 j2 prog w _ _ ?_)
      by_cases he : e i = true
      · rw [firstLt_yes he] at now
        rw [he]
        wp_walk
        refine ⟨rfl, rfl, i + 1, more, fun k hk => ?_, now⟩
        by_cases hki : k = i
        · rw [hki]; exact he
        · exact seen k (by omega)
      · have he : e i = false := by simpa using he
        rw [firstLt_no he] at now
        rw [he]
        have less := lts i j1 j2 seen he prog w
        generalize richCompare .Lt us[i] vs[i] = rc at less ⊢
        wp_walk
        refine less _ _ ?_
        wp_walk
        exact ⟨_, rfl, now⟩
    case fin =>
      rintro ⟨b1, b2⟩ s' ⟨hst, rfl, i, hz, seen, now⟩
      simp only at hst
      subst hst
      have over : min us.size vs.size ≤ i := by
        apply Nat.le_of_not_lt
        intro z
        rw [List.drop_eq_getElem_cons (both ▸ z)] at hz; cases hz
      rw [List.drop_of_length_le (by simpa using over)] at now
      wp_walk
      exact ⟨_, rfl, by simpa [Builtin.Tuple.tupleCompareSizes, firstLt] using now⟩
    case h =>
      exact ⟨rfl, rfl, 0, rfl, fun k hk => absurd hk (Nat.not_lt_zero k), by simpa using goal⟩
theorem rcLt_first {A : Around} {s : Shared} {a b : Addr} {us vs : Array Value} {e r : Nat → Bool} (h1 : s.heap.IsTuple a us) (h2 : s.heap.IsTuple b vs) (hu : A.units < cLine)
    (eqs : ∀ j (hj : j < us.size) (hk : j < vs.size), EqAt A.in1 s us[j] vs[j] (e j)) (lts : ∀ j (hj : j < us.size) (hk : j < vs.size), (∀ i, i < j → e i = true) → e j = false → RcLt A.in1 s us[j] vs[j] (r j)) :
    RcLt A s (.ref a) (.ref b) (firstLt e r (decide (us.size < vs.size)) (List.range (min us.size vs.size))) := fun prog w E Q q => by
  obtain ⟨⟨c1, e1, t1, l1⟩, g1, k1, n1, q1⟩ := id h1
  obtain ⟨⟨c2, e2, t2, l2⟩, g2, k2, n2, q2⟩ := id h2
  simp only at k1 q1 k2 q2
  subst k1 q1 k2 q2
  exact richCompare_meets_room (op := .Lt) ⟨_, g1, rfl⟩ ⟨_, g2, rfl⟩ F.slot_tuple_lt F.entry_tuple_lt (F.args_tuple_lt_2 _ _) (tupLt_first a b us vs n1 n2 e1 e2 l1 l2 e r)
    ⟨⟨g1, g2⟩, eqs, lts, show Value.bool _ ≠ Value.notImplemented ∧ Q (.bool _) s from ⟨(fun z => nomatch z), q⟩⟩ hu
end PySem.SeqAt
namespace DL
open PySem PySem.Spec PyProof.Rows L2 PySem.SeqAt
mutual
def plt : PyData → PyData → Option Bool
  | .int i, .int j => some (decide (i < j))
  | .str x, .str y => some (decide (x.cps.toList < y.cps.toList))
  | .tuple xs, .tuple ys => pltA xs ys
  | _, _ => none
def pltA : List PyData → List PyData → Option Bool
  | [], [] => some false
  | [], _ :: _ => some true
  | _ :: _, [] => some false
  | x :: xs, y :: ys => if PyData.eqv x y = true then pltA xs ys else plt x y
end
def eAt (xs ys : List PyData) (j : Nat) : Bool := PyData.eqv (xs.getD j .none) (ys.getD j .none)
def rAt (xs ys : List PyData) (j : Nat) : Bool := (plt (xs.getD j .none) (ys.getD j .none)).getD false
theorem pltA_first : ∀ (xs ys : List PyData) (k : Bool), pltA xs ys = some k → firstLt (eAt xs ys) (rAt xs ys) (decide (xs.length < ys.length)) (List.range (min xs.length ys.length)) = k
  | [], [], k, h => by rw [pltA] at h; cases h; simp [firstLt]
  | [], _ :: _, k, h => by rw [pltA] at h; cases h; simp [firstLt]
  | _ :: _, [], k, h => by rw [pltA] at h; cases h; simp [firstLt]
  | x :: xs, y :: ys, k, h => by
    rw [pltA] at h
    rw [List.length_cons, List.length_cons, show min (xs.length + 1) (ys.length + 1) = min xs.length ys.length + 1 by omega, List.range_succ_eq_map]
    by_cases e : PyData.eqv x y = true
    · rw [if_pos e] at h
      rw [firstLt_yes (by exact e), PySem.W.firstLt_map, ← pltA_first xs ys k h]
      have : decide (xs.length + 1 < ys.length + 1) = decide (xs.length < ys.length) := by simp
      rw [this]
      rfl
    · rw [if_neg e] at h
      have e' : PyData.eqv x y = false := by simpa using e
      rw [firstLt_no (show eAt (x :: xs) (y :: ys) 0 = false from e')]
      show (plt x y).getD false = k
      rw [h]; rfl
theorem pltA_at : ∀ (xs ys : List PyData) (k : Bool) (j : Nat), pltA xs ys = some k → j < xs.length → j < ys.length → (∀ i, i < j → eAt xs ys i = true) → eAt xs ys j = false → plt (xs.getD j .none) (ys.getD j .none) = some (rAt xs ys j)
  | [], ys, k, j, _, h1, _, _, _ => absurd h1 (Nat.not_lt_zero _)
  | _ :: _, [], k, j, _, _, h2, _, _ => absurd h2 (Nat.not_lt_zero _)
  | x :: xs, y :: ys, k, 0, h, _, _, _, he => by
    have he : PyData.eqv x y = false := he
    rw [pltA, if_neg (by rw [he]; decide)] at h
    show plt x y = some ((plt x y).getD false)
    rw [h]; rfl
  | x :: xs, y :: ys, k, j + 1, h, h1, h2, hall, he => by
    have h0 : PyData.eqv x y = true := hall 0 (Nat.succ_pos _)
    rw [pltA, if_pos h0] at h
    exact pltA_at xs ys k j h (Nat.lt_of_succ_lt_succ h1) (Nat.lt_of_succ_lt_succ h2) (fun i hi => hall (i + 1) (Nat.succ_lt_succ hi)) he
theorem readsAll_at {h : Heap} : ∀ {vs : List Value} {xs : List PyData} {as : List Addr} (j : Nat), ReadsAll h vs xs as → (hj : j < vs.length) → ∃ bs, Reads h vs[j] (xs.getD j .none) bs ∧ xs.getD j .none ∈ xs
  | _, _, _, _, .nil, hj => absurd hj (Nat.not_lt_zero _)
  | _, _, _, 0, .cons r _, _ => ⟨_, r, List.mem_cons_self⟩
  | _, _, _, j + 1, .cons _ rs, hj => let ⟨bs, h1, h2⟩ := readsAll_at j rs (Nat.lt_of_succ_lt_succ hj); ⟨bs, h1, List.mem_cons_of_mem _ h2⟩
theorem depth_mem : ∀ {xs : List PyData} {x : PyData}, x ∈ xs → x.depth ≤ PyData.depthAll xs
  | _ :: _, _, .head _ => by rw [PyData.depthAll]; omega
  | _ :: _, _, .tail _ h => by have := depth_mem h; rw [PyData.depthAll]; omega
theorem canLay_mem : ∀ {xs : List PyData} {x : PyData}, x ∈ xs → PyData.canLayAll0 xs = true → x.canLay0 = true
  | _ :: _, _, .head _, h => by rw [PyData.canLayAll0, Bool.and_eq_true] at h; exact h.1
  | _ :: _, _, .tail _ m, h => by rw [PyData.canLayAll0, Bool.and_eq_true] at h; exact canLay_mem m h.2
theorem rc_plt (n : Nat) : ∀ (x y : PyData) (A : Around) (s : Shared) (a b : Value) (as bs : List Addr) (k : Bool), x.depth ≤ n → Reads s.heap a x as → Reads s.heap b y bs → x.canLay0 = true → y.canLay0 = true → plt x y = some k → A.units + n < cLine → RcLt A s a b k := by
  induction n with
  | zero =>
    intro x y A s a b as bs k hd ra rb hx hy h hu
    cases x with
    | int i =>
      cases y with
      | int j =>
        cases ra
        cases rb
        rw [plt] at h
        cases h
        exact fun prog w E Q q => P.lt_int q
      | _ => simp [plt] at h
    | str i =>
      cases y with
      | str j =>
        cases ra
        cases rb
        rw [plt] at h
        cases h
        exact fun prog w E Q q => P.lt_str q
      | _ => simp [plt] at h
    | tuple xs => simp only [PyData.depth] at hd; omega
    | _ => simp [plt] at h
  | succ n ih =>
    intro x y A s a b as bs k hd ra rb hx hy h hu
    cases x with
    | int i =>
      cases y with
      | int j =>
        cases ra
        cases rb
        rw [plt] at h
        cases h
        exact fun prog w E Q q => P.lt_int q
      | _ => simp [plt] at h
    | str i =>
      cases y with
      | str j =>
        cases ra
        cases rb
        rw [plt] at h
        cases h
        exact fun prog w E Q q => P.lt_str q
      | _ => simp [plt] at h
    | tuple xs =>
      cases y with
      | tuple ys =>
        rw [plt] at h
        simp only [PyData.depth] at hd
        cases ra with
        | @tuple l o vs n1 _ as1 g1 g2 g3 g4 =>
          cases rb with
          | @tuple l' o' vs' n2 _ bs1 k1 k2 k3 k4 =>
            have z1 : vs.size = xs.length := by simpa using ReadsAll.length _ _ _ g4
            have z2 : vs'.size = ys.length := by simpa using ReadsAll.length _ _ _ k4
            rw [← pltA_first xs ys k h, ← z1, ← z2]
            have hin : A.in1.units = A.units + 1 := rfl
            refine rcLt_first ⟨_, g1, g2, _, g3⟩ ⟨_, k1, k2, _, k3⟩ (by omega) (fun j j1 j2 => ?_) fun j j1 j2 hall he => ?_
            · obtain ⟨cs, c1, c2⟩ := readsAll_at j g4 (by simpa using j1)
              obtain ⟨ds, d1, d2⟩ := readsAll_at j k4 (by simpa using j2)
              have := depth_mem c2
              exact eqAt_reads _ _ A.in1 s _ _ cs ds (by simpa using c1) (by simpa using d1) (canLay_mem c2 hx) (canLay_mem d2 hy) (by rw [hin]; omega)
            · obtain ⟨cs, c1, c2⟩ := readsAll_at j g4 (by simpa using j1)
              obtain ⟨ds, d1, d2⟩ := readsAll_at j k4 (by simpa using j2)
              have := depth_mem c2
              exact ih _ _ A.in1 s _ _ cs ds _ (by omega) (by simpa using c1) (by simpa using d1) (canLay_mem c2 hx) (canLay_mem d2 hy) (pltA_at xs ys k j h (by omega) (by omega) hall he) (by rw [hin]; omega)
      | _ => simp [plt] at h
    | _ => simp [plt] at h
end DL

/-! The data layer: < of nested rows, list.count, min of numbers, texts: replace, join. -/
namespace DL
open PySem PySem.Spec PyProof.Rows L2
section
variable {X : Cx} {K : PySem.W.Frag} {cA : Str → Addr} {W : WX} {B : Addr → Prop} {ι ι' : List Addr} {S : Sto} {H H' : Hp} {σ : L2.St} {e : En} {a b c : Expr} {ma mb : ME} {xs : MA} {pos : Pos} {es : List Expr}
def rLtP (K : PySem.W.Frag) : R2 := fun x y H Q => ∃ d e k, Dp K H x d ∧ Dp K H y e ∧ SeqAt.shaped d = true ∧ SeqAt.shaped e = true ∧ plt d e = some k ∧ Q (.bl k) H
theorem op_ltP (hu : X.A.units + 64 < cLine) : OpR X (compareOp .Lt) (rLtP X.K) := by
  intro pins s σ H x y v u Q I rx ry h
  obtain ⟨d, e, k, hd, he, sd, se, hk, q⟩ := h
  obtain ⟨as, r1⟩ := Dp.reads I d x v hd rx
  obtain ⟨bs, r2⟩ := Dp.reads I e y u he ry
  have := rc_plt 64 d e X.A s v u as bs k (SeqAt.depth_of_shaped sd) r1 r2 (SeqAt.canLay_of_shaped sd) (SeqAt.canLay_of_shaped se) hk hu
  exact this X.prog X.w X.xe (EP X pins σ Q) ⟨.bl _, H, I, rfl, q⟩
def gLtP (S : Sto) (a b : D) : Option D := match gLt S a b with
  | some d => some d
  | none => match pd (view S a), pd (view S b) with
    | some d, some e => if SeqAt.shaped d = true ∧ SeqAt.shaped e = true then (plt d e).map .bl else none
    | _, _ => none
theorem o_ltP (hu : X.A.units + 64 < cLine) : O2 X (compareOp .Lt) gLtP := by
  obtain ⟨r, h1, h2⟩ := (o_lt : O2 X (compareOp .Lt) gLt).ex
  refine o_mk (h1.or (op_ltP hu)) fun cA B ι S H x y a b d Q rs ra rb hg q => ?_
  unfold gLtP at hg
  split at hg
  · rename_i d' e1
    cases hg
    exact .inl (h2 cA B ι S H x y a b d Q rs ra rb e1 q)
  · split at hg
    · rename_i p1 p2 e1 e2
      split at hg
      · rename_i hz
        cases q3 : plt p1 p2 with
        | none => rw [q3] at hg; cases hg
        | some k =>
          rw [q3] at hg
          cases hg
          exact .inr ⟨p1, p2, k, view_dp rs ra e1, view_dp rs rb e2, hz.1, hz.2, q3, q _ _ same_refl RD.mk_bl⟩
      · cases hg
    · cases hg
end
end DL

/-! The data layer: replace, join, count in a list, the lesser of two numbers. -/
namespace DL
open PySem PySem.Spec PyProof.Rows L2
section
variable {X : Cx} {K : PySem.W.Frag} {cA : Str → Addr} {W : WX} {B : Addr → Prop} {ι ι' : List Addr} {S : Sto} {H H' : Hp} {σ : L2.St} {e : En} {a b c o : Expr} {ma mb mo : ME} {xs : MA} {pos : Pos} {es : List Expr} {g : Sto → D → D → Option D}
/-! ### replace: one token is given out before -/
def gRep (y z : Str) (S : Sto) : D → Option D
  | .str x => if x.length + (x.length + 1) * z.length ≤ 16777216 then some (.str (Txt.replace x y z)) else none
  | _ => none
theorem qt_of (h : PE X a (tE X.K cA W ma)) : PET X a (tE X.K cA W ma) := fun pins s σ H Q _ I q => h.run pins s σ H Q I q
theorem qt_rep {y z : Str} {j0 j1 : Nat} {c0 c1 apos : Pos} (ho : PET X o (tE X.K cA W mo)) (hyz : (y == z) = false := by decide)
    (hst : starEach [.Constant (.str y) j0 c0, .Constant (.str z) j1 c1] X.env = [(false, eval (.Constant (.str y) j0 c0) X.env), (false, eval (.Constant (.str z) j1 c1) X.env)] := by rfl)
    (hbase : attributeBase o "replace" X.env (eval o X.env) = eval o X.env := by rfl) (hline : (apos.endLine == pos.line) = true := by rfl) :
    PET X (.Call (.Attribute o "replace" apos) [.Constant (.str y) j0 c0, .Constant (.str z) j1 c1] [] pos) (tE X.K cA W (e1 (gRep y z) mo)) := fun pins s σ H Q h0 I ⟨B, ι, e, S, re, p⟩ => by
  have h1 : tE X.K cA W mo σ H (fun v H1 => ∃ x, v = .str x ∧ x.length + (x.length + 1) * z.length ≤ 16777216 ∧ Q (.str (Txt.replace x y z)) H1) := .of re (po_bind re p fun ι1 v1 H1 d1 S1 f1 r1 rd1 p1 => by
    obtain ⟨d, hd, q⟩ := po_opt p1 r1.rs
    unfold gRep at hd
    split at hd
    · split at hd
      · rename_i hz
        cases hd
        exact ⟨_, rd1.str, hz, q _ _ same_refl RD.mk_str⟩
      · cases hd
    · cases hd)
  refine PySem.Call_method2 hbase hst hline (wpAny_mono (PySem.wpAny_toks (ho pins s σ H _ h0 I h1)) (fun v s1 q => ?_) fun _ _ x => x.2)
  obtain ⟨hk, w1, H1, I1, rv, x, rfl, hz, q⟩ := q
  obtain ⟨tx, rfl⟩ := rv
  refine ⟨"str", _, F.plainAttrs_str, F.slot_str_replace, F.type_str_replace, typeIs_str _ _ _, (fun _ e => nomatch e), Calls.callWith_builtin rfl (Calls.evalArgs_plain (Calls.spliced_cons ?_))⟩
  refine Calls.Constant_str (Calls.spliced_cons (Calls.Constant_str (Calls.spliced_nil ?_)))
  exact PySem.SC.replace (by show s1.toks ≠ 0; omega) (by show s1.toks + 1 ≠ 0; omega) (by show s1.toks ≠ s1.toks + 1; omega) hyz hz fun t' k => ⟨.str (Txt.replace x y z), H1, I1.tok k, ⟨t', rfl⟩, q⟩
/-- a text, then .. -/
theorem q_opC {op : Operator} {x : Str} {j : Nat} {p : Pos} (ho : O2 X (binaryOp op) g) (hb : PET X b (tE X.K cA W mb)) : PE X (.BinOp (.Constant (.str x) j p) op b pos) (tE X.K cA W (e2 g (eC (.str x)) mb)) := by
  obtain ⟨r, h1, h2⟩ := ho.ex
  refine PEi (t := tOp r (tE X.K cA W (eC (.str x))) (tE X.K cA W mb)) ⟨fun pins s σ H Q I h => wpAny_BinOp (Calls.Constant_str ?_)⟩ (use2 (f := binaryOp op) h2)
  obtain ⟨B, ι, e, S, re, p⟩ := h
  have q1 := p ι (.str x) H Fr.refl re.rs RD.mk_str
  exact thn (hb pins { s with toks := s.toks + 1 } σ H _ (by show 1 ≤ s.toks + 1; omega) (I.tok _) q1) fun u s2 ⟨y, H2, I2, r2, q2⟩ => h1 pins s2 σ H2 (.str x) y (.str x s.toks) u Q I2 ⟨_, rfl⟩ r2 q2

/-! ### methods of texts, of lists -/
def isS : D → Bool
  | .str _ => true
  | _ => false
def eM1 (g : Sto → D → D → Option D) (mo ma : ME) : ME := fun e S => (mo e S).bind fun x S1 => if isS x = true then (ma e S1).bind fun y S2 => opt (g S2 x y) S2 else .bad
def eM0 (g : Sto → D → Option D) (mo : ME) : ME := fun e S => (mo e S).bind fun x S1 => if isS x = true then opt (g S1 x) S1 else .bad
theorem isS_V {d : D} {v : V} (rd : RD K B ι H d v) (h : isS d = true) : ∃ x, d = .str x ∧ v = .str x := by
  cases d with
  | str x => exact ⟨x, rfl, rd.str⟩
  | _ => cases h
theorem use_m1 {r : V → List V → Hp → VK → Prop} (hr : ∀ (cA : Str → Addr) (B : Addr → Prop) (ι : List Addr) (S : Sto) (H : Hp) (x : Str) (y : V) (b d : D) (Q : VK), RS X.K cA B ι S H → RD X.K B ι H b y → g S (.str x) b = some d → (∀ v H', Same H H' → RD X.K B ι H' d v → Q v H') → r (.str x) [y] H Q) :
    ∀ σ H Q, tE X.K cA W (eM1 g mo ma) σ H Q → tM1 r (tE X.K cA W mo) (tE X.K cA W ma) σ H Q := fun σ H Q ⟨B, ι, e, S, re, p⟩ =>
  .of re (po_bind re p fun ι1 v1 H1 d1 S1 f1 r1 rd1 p1 => by
    split at p1
    · rename_i hs
      obtain ⟨x, rfl, rfl⟩ := isS_V rd1 hs
      refine ⟨⟨x, rfl⟩, .of r1 (po_bind r1 p1 fun ι2 v2 H2 d2 S2 f2 r2 rd2 p2 => ?_)⟩
      obtain ⟨d, hd, q⟩ := po_opt p2 r2.rs
      exact hr cA B ι2 S2 H2 x v2 d2 d Q r2.rs rd2 hd q
    · exact p1.elim)
/-- the texts in a row -/
def strL : List D → Option (List Str)
  | [] => some []
  | .str b :: ds => (strL ds).map (b :: ·)
  | _ => none
theorem strs_V : ∀ {ds : List D} {xs : List V} {bs : List Str}, RDs K B ι H ds xs → strL ds = some bs → xs = bs.map V.str
  | [], xs, bs, r, h => by cases h; rw [r.nil_inv]; rfl
  | .str k :: ds, xs, bs, r, h => by
    obtain ⟨v, t, rfl, h1, h2⟩ := r.cons_inv
    rw [strL] at h
    cases q : strL ds with
    | none => rw [q] at h; cases h
    | some l =>
      rw [q] at h; cases h
      rw [strs_V h2 q, h1.str]; rfl
  | .non :: ds, xs, bs, r, h => by cases h
  | .bl _ :: ds, xs, bs, r, h => by cases h
  | .int _ :: ds, xs, bs, r, h => by cases h
  | .tup _ :: ds, xs, bs, r, h => by cases h
  | .lst _ :: ds, xs, bs, r, h => by cases h
  | .dct _ _ :: ds, xs, bs, r, h => by cases h
  | .obj _ :: ds, xs, bs, r, h => by cases h
  | .scr _ :: ds, xs, bs, r, h => by cases h
def gJoin (S : Sto) (a b : D) : Option D := match a, view S b with
  | .str x, .lst ds => match strL ds with | some ys => if (ys.map (·.length)).sum + ys.length * x.length ≤ 16777216 then some (.str (Txt.join x ys)) else none | none => none
  | .str x, .tup ds => match strL ds with | some ys => if (ys.map (·.length)).sum + ys.length * x.length ≤ 16777216 then some (.str (Txt.join x ys)) else none | none => none
  | _, _ => none
theorem q_join {apos : Pos} (ho : PE X o (tE X.K cA W mo)) (ha : PE X a (tE X.K cA W ma)) (hs : starEach [a] X.env = [(false, eval a X.env)] := by rfl) (hbase : attributeBase o "join" X.env (eval o X.env) = eval o X.env := by rfl) (hline : (apos.endLine == pos.line) = true := by rfl) :
    PE X (.Call (.Attribute o "join" apos) [a] [] pos) (tE X.K cA W (eM1 gJoin mo ma)) := PEi (pe_join ho ha hs hbase hline) (use_m1 fun cA B ι S H x y b d Q rs rb hg q => by
  unfold gJoin at hg
  split at hg
  · rename_i x' ds e1 e2
    cases e1
    split at hg
    · rename_i ys e3
      split at hg
      · rename_i hz
        cases hg
        obtain ⟨p, us, rfl, h1, h2⟩ := v_lst rs rb e2
        rw [strs_V h2 e3] at h1
        exact ⟨x, p, ys, rfl, rfl, .inl h1, hz, q _ _ same_refl RD.mk_str⟩
      · cases hg
    · cases hg
  · rename_i x' ds e1 e2
    cases e1
    split at hg
    · rename_i ys e3
      split at hg
      · rename_i hz
        cases hg
        obtain ⟨p, us, rfl, h1, h2⟩ := v_tup rb e2
        have h1 := h1.sq
        rw [strs_V h2 e3] at h1
        exact ⟨x, p, ys, rfl, rfl, .inr h1, hz, q _ _ same_refl RD.mk_str⟩
      · cases hg
    · cases hg
  · cases hg)
/-! count -/
def ofV : Value → V
  | .bool b => .bl b
  | .int i _ => .int i
  | .str x _ => .str x
  | _ => .non
theorem ofV_of {v : V} {u : Value} (r : RelV v u) (f : flatV v = true) : ofV u = v := by
  cases v with
  | non => cases (show u = .none from r); rfl
  | bl b => cases (show u = .bool b from r); rfl
  | int i => obtain ⟨t, rfl⟩ := r; rfl
  | str x => obtain ⟨t, rfl⟩ := r; rfl
  | _ => cases f
def rCntV (K : PySem.W.Frag) : V → List V → Hp → VK → Prop := fun x xs H Q => ∃ (p : Addr) (vs : List V) (y : V), x = .ref p ∧ xs = [y] ∧ SqL K H p vs ∧ vs.all flatV = true ∧ flatV y = true ∧ Q (.int (vs.countP fun v => eqV v y : Nat)) H
theorem cnt_same {y : V} : ∀ {vs : List V} {its : List Value}, Vals vs its → vs.all flatV = true → its.countP (fun z => eqV (ofV z) y) = vs.countP (fun v => eqV v y) := by
  intro vs its rv
  induction rv with
  | nil => intro _; rfl
  | cons r _ ih =>
    intro fl
    rw [List.all_cons, Bool.and_eq_true] at fl
    rw [List.countP_cons, List.countP_cons, ih fl.2, ofV_of r fl.1]
theorem mt_countV : MtR X "list.count" (rCntV X.K) := by
  intro pins s σ H x xs v us Q I rx rxs hyp
  obtain ⟨p, vs, y, rfl, rfl, sq, fl, fy, q⟩ := hyp
  cases rx
  obtain ⟨u, rfl, ru⟩ := rxs.one
  obtain ⟨its, rv, ⟨⟨cls, dd, data, sl⟩, n, at1, hc, hdn, hd⟩, hlen⟩ := I.list sq
  simp only at hc hd
  subst hc hd
  have each : ∀ z ∈ its, ∃ w ∈ vs, RelV w z := fun z hz => by
    obtain ⟨i, hi, rfl⟩ := List.getElem_of_mem hz
    have hl := rv.length
    have hi2 : i < vs.length := by omega
    obtain ⟨w', g1, g2⟩ := rv.get (List.getElem?_eq_getElem hi2)
    rw [List.getElem?_eq_getElem hi] at g1
    cases g1
    exact ⟨vs[i], List.getElem_mem _, g2⟩
  refine call_meets PySem.F.slot_list_count ⟨_, at1, rfl⟩ PySem.F.entry_list_count (PySem.F.args_list_count_2 _ _)
    (SeqAt.list_countAt p its.toArray n dd sl u (fun z => eqV (ofV z) y)) ⟨at1, fun z hz => ?_, ?_⟩
  · obtain ⟨w, hw, rw'⟩ := each z (by simpa using hz)
    have fw := List.all_eq_true.mp fl w hw
    rw [ofV_of rw' fw]
    exact eqAt_V rw' ru fw fy
  · rw [List.toList_toArray, cnt_same rv fl]
    exact ⟨.int _, H, I.tok _, ⟨_, rfl⟩, q⟩
def isLv (S : Sto) (d : D) : Bool := match view S d with | .lst _ => true | _ => false
def gCnt (S : Sto) (a b : D) : Option D := match view S a with
  | .lst ds => match flas ds, fla b with | some vs, some y => some (.int (vs.countP fun v => eqV v y : Nat)) | _, _ => none
  | _ => none
def eCnt (mo ma : ME) : ME := fun e S => (mo e S).bind fun x S1 => if isLv S1 x = true then (ma e S1).bind fun y S2 => opt (gCnt S2 x y) S2 else .bad
theorem q_cnt {apos : Pos} (ho : PE X o (tE X.K cA W mo)) (hv : PE X a (tE X.K cA W ma))
    (h : ∀ {to : TE} {t : TA}, PE X o to → PA X [a] t → PE X (.Call (.Attribute o "count" apos) [a] [] pos) (tBM X.K "list" (rCntV X.K) to t)) (hst : starEach [a] X.env = [(false, eval a X.env)] := by rfl) : PE X (.Call (.Attribute o "count" apos) [a] [] pos) (tE X.K cA W (eCnt mo ma)) :=
  PEi (h ho (pa_cons hv pa_nil hst)) fun σ H Q ⟨B, ι, e, S, re, p⟩ =>
    .of re (po_bind re p fun ι1 v1 H1 d1 S1 f1 r1 rd1 p1 => by
      split at p1
      · rename_i hl
        unfold isLv at hl
        split at hl
        · rename_i ds0 q0
          obtain ⟨a', us0, rfl, h20, h30⟩ := v_lst r1.rs rd1 q0
          refine ⟨.inl ⟨rfl, _, h20⟩, .of r1 (po_bind r1 p1 fun ι2 v2 H2 d2 S2 f2 r2 rd2 p2 => ?_)⟩
          obtain ⟨d, hd, q⟩ := po_opt p2 r2.rs
          unfold gCnt at hd
          split at hd
          · rename_i ds q2
            split at hd
            · rename_i vs y e1 e2
              cases hd
              obtain ⟨a2, us, e3, h3, h4⟩ := v_lst r2.rs (RD.fr f2 _ _ rd1) q2
              cases e3
              obtain ⟨g1, g2⟩ := flas_V h4 e1
              obtain ⟨g3, g4⟩ := fla_V rd2 e2
              subst g1 g3
              exact ⟨_, us, v2, rfl, rfl, h3, g2, g4, q _ _ same_refl RD.mk_int⟩
            · cases hd
          · cases hd
        · cases hl
      · exact p1.elim)
def gMin2 (S : Sto) : List D → Option D
  | [.int i, .int j] => some (.int (if j < i then j else i))
  | _ => none
theorem c_min2 (hc : X.calm = true) : CB X (.builtin "min") gMin2 := .mk' (call_min2 hc) fun cA B ι S H xs ds d Q rs rd hg q => by
  unfold gMin2 at hg
  split at hg
  · cases hg
    obtain ⟨v, u, rfl, rv, ru⟩ := rd.two
    exact ⟨_, _, by rw [rv.int, ru.int], q _ H same_refl RD.mk_int⟩
  · cases hg
end
end DL

namespace Law
open PySem PySem.Spec PyProof.Rows L2 DL
noncomputable def b_tree_text (r_tree_text : MF) : MS := sSeq (sIf (tOf (e1 (gIsi "str") (eV 0))) (sRet (e2 gAdd (e2 gAdd (eC (.str "\"")) (e1 (gRep "\"" "\\\"") (e1 (gRep "\\" "\\\\") (eV 0)))) (eC (.str "\"")))) (sPass)) (sRet (e2 gAdd (e2 gAdd (eC (.str "(")) (eM1 gJoin (eC (.str " ")) (eLc (eV 0) (mNm 1) (tYs) (eCall' 1 r_tree_text (aC (eV 1) (aN))) [1]))) (eC (.str ")"))))
noncomputable def m_tree_text : Nat → MF
  | 0 => fun _ _ => .bad
  | n + 1 => fnD 2 (b_tree_text (m_tree_text n))
noncomputable def b_tree_key (r_tree_key : MF) : MS := sSeq (sIf (tOf (e1 (gIsi "str") (eV 0))) (sRet (eTup (aC (eC (.int 0)) (aC (eV 0) (aN))))) (sPass)) (sRet (eTup (aC (eC (.int 1)) (aC (eB gTuple (aC (eLc (eV 0) (mNm 1) (tYs) (eCall' 1 r_tree_key (aC (eV 1) (aN))) [1]) (aN))) (aN)))))
noncomputable def m_tree_key : Nat → MF
  | 0 => fun _ _ => .bad
  | n + 1 => fnD 2 (b_tree_key (m_tree_key n))
noncomputable def b_is_ahead : MS := sRet (e2 gLtP (eCall' 1 (m_tree_key 60) (aC (eV 0) (aN))) (eCall' 1 (m_tree_key 60) (aC (eV 1) (aN))))
noncomputable def m_is_ahead : MF := fnD 2 b_is_ahead
noncomputable def b__law_pot : MS := sSeq (sIf (tOf (e2 (gI iGe) (eB gAbs (aC (eV 0) (aN))) (e2 gPow (eC (.int 10)) (eC (.int 18))))) (sRet (eNew (aC (eB gAbs (aC (eV 0) (aN))) (aC (eV 1) (aN))))) (sPass)) (sRet (eNew (aC (eC (.int 0)) (aC (e2 gMod (e2 gMul (e2 gAdd (e2 gAdd (e2 gMod (eV 0) (eC (.int 2147483647))) (e2 gMul (eC (.int 7919)) (eV 1))) (eC (.int 11))) (eC (.int 48271))) (eC (.int 2147483647))) (aN)))))
noncomputable def m__law_pot : MF := fnK 2 b__law_pot
noncomputable def b__law_take : MS := sSeq (sIf (tOf (e2 (gI iGt) (e2 gIx (eV 0) (eC (.int 0))) (eC (.int 0)))) (sSeq (sSet 2 (e2 gMod (e2 gIx (eV 0) (eC (.int 0))) (eV 1))) (sSeq (sSetI (eV 0) (eC (.int 0)) (e2 gFdiv (e2 gIx (eV 0) (eC (.int 0))) (eV 1))) (sRet (eV 2)))) (sPass)) (sSeq (sSetI (eV 0) (eC (.int 1)) (e2 gMod (e2 gAdd (e2 gMul (e2 gIx (eV 0) (eC (.int 1))) (e2 gIx (eV 0) (eC (.int 1)))) (eC (.int 104729))) (eC (.int 2147483629)))) (sRet (e2 gMod (e2 gFdiv (e2 gMod (e2 gMul (e2 gIx (eV 0) (eC (.int 1))) (eC (.int 48271))) (eC (.int 2147483647))) (eC (.int 7))) (eV 1))))
noncomputable def m__law_take : MF := fnD 3 b__law_take
noncomputable def b__law_signs : MS := sSeq (sSet 0 (eC (.str "abcdefghijklmnopqrstuvwxyzABCDEFGHIJKLMNOPQRSTUVWXYZ0123456789"))) (sRet (e2 gAdd (e2 gAdd (e2 gAdd (e2 gAdd (eV 0) (eC (.str " !#$&'()*+,-./:;<=>?\x40[]^_"))) (eC (.str "`{|}~"))) (eC (.str "\""))) (eC (.str "\\"))))
noncomputable def m__law_signs : MF := fnD 1 b__law_signs
noncomputable def b__law_text : MS := sSeq (sSet 1 (eCall' 0 m__law_signs aN)) (sSeq (sSet 2 (eC (.str ""))) (sSeq (sForR (eCall' 2 m__law_take (aC (eV 0) (aC (eC (.int 5)) (aN)))) (mNm 3) (sSet 2 (e2 gAdd (eV 2) (e2 gIx (eV 1) (eCall' 2 m__law_take (aC (eV 0) (aC (eB gLen (aC (eV 1) (aN))) (aN)))))))) (sSeq (sIf (tOf (e2 gEq (eCall' 2 m__law_take (aC (eV 0) (aC (eC (.int 24)) (aN)))) (eC (.int 7)))) (sSet 2 (e2 gAdd (eV 2) (e2 gMul (eC (.str "z")) (e2 gSub (e2 gAdd (eC (.int 298)) (eCall' 2 m__law_take (aC (eV 0) (aC (eC (.int 4)) (aN))))) (eB gLen (aC (eV 2) (aN))))))) (sPass)) (sRet (eV 2)))))
noncomputable def m__law_text : MF := fnD 4 b__law_text
noncomputable def b__law_tree (r__law_tree : MF) : MS := sSeq (sSet 2 (eCall' 2 m__law_take (aC (eV 0) (aC (eC (.int 7)) (aN))))) (sSeq (sIf (tO (tOf (e2 gEq (eV 1) (eC (.int 0)))) (tOf (e2 gLt (eV 2) (eC (.int 3))))) (sRet (eCall' 1 m__law_text (aC (eV 0) (aN)))) (sPass)) (sSeq (sIf (tOf (e2 gEq (eV 2) (eC (.int 6)))) (sSeq (sSet 3 (eCall' 2 r__law_tree (aC (eV 0) (aC (e2 gSub (eV 1) (eC (.int 1))) (aN))))) (sSeq (sForR (eCall' 2 m__law_take (aC (eV 0) (aC (eC (.int 13)) (aN)))) (mNm 4) (sSet 3 (eTup (aC (eV 3) (aN))))) (sRet (eV 3)))) (sPass)) (sRet (eB gTuple (aC (eLcG (aC (eCall' 2 m__law_take (aC (eV 0) (aC (eC (.int 4)) (aN)))) (aN)) (mNm 4) (tYs) (eCall' 2 r__law_tree (aC (eV 0) (aC (e2 gSub (eV 1) (eC (.int 1))) (aN)))) [4]) (aN))))))
noncomputable def m__law_tree : Nat → MF
  | 0 => fun _ _ => .bad
  | n + 1 => fnD 5 (b__law_tree (m__law_tree n))
noncomputable def b__law_measure (r__law_measure : MF) : MS := sSeq (sIf (tOf (e1 (gIsi "str") (eV 0))) (sSeq (sSet 1 (eCall' 0 m__law_signs aN)) (sRet (eTup (aC (eAn (e2 gLe (eB gLen (aC (eV 0) (aN))) (eC (.int 300))) (eB (gLb allB) (aC (eLc (eV 0) (mNm 4) (tYs) (e2 gIn (eV 4) (eV 1)) [4]) (aN)))) (aC (e2 gAdd (eB gLen (aC (eV 0) (aN))) (eC (.int 1))) (aC (eC (.int 1)) (aN))))))) (sPass)) (sSeq (sIf (tNo (tOf (e1 (gIsi "tuple") (eV 0)))) (sRet (eTup (aC (eC (.bl false)) (aC (eC (.int 0)) (aC (eC (.int 0)) (aN)))))) (sPass)) (sSeq (sSet 2 (eLc (eV 0) (mNm 5) (tYs) (eCall' 1 r__law_measure (aC (eV 5) (aN))) [5])) (sSeq (sSet 3 (eAn (e2 gLe (eB gLen (aC (eV 0) (aN))) (eC (.int 40))) (eB (gLb allB) (aC (eLc (eV 2) (mNm 5) (tYs) (e2 gIx (eV 5) (eC (.int 0))) [5]) (aN))))) (sRet (eTup (aC (eV 3) (aC (e2 gAdd (eC (.int 1)) (eB gSum (aC (eLc (eV 2) (mNm 5) (tYs) (e2 gIx (eV 5) (eC (.int 1))) [5]) (aN)))) (aC (e2 gAdd (eC (.int 1)) (eBK gMaxD (aC (eLc (eV 2) (mNm 5) (tYs) (e2 gIx (eV 5) (eC (.int 2))) [5]) aN) (aC (eC (.int 0)) aN))) (aN)))))))))
noncomputable def m__law_measure : Nat → MF
  | 0 => fun _ _ => .bad
  | n + 1 => fnD 6 (b__law_measure (m__law_measure n))
noncomputable def b__law_is_tree : MS := sSeq (sAsg (mTup 3 (mCons (mNm 1) (mCons (mNm 2) (mCons (mNm 3) (mNil))))) (eCall' 1 (m__law_measure 60) (aC (eV 0) (aN)))) (sRet (eAn (eV 1) (eAn (e2 gLe (eV 2) (eC (.int 600))) (e2 gLe (eV 3) (eC (.int 12))))))
noncomputable def m__law_is_tree : MF := fnD 4 b__law_is_tree
noncomputable def b__law_good_tree : MS := sSeq (sSet 1 (eCall' 2 (m__law_tree 60) (aC (eV 0) (aC (eC (.int 3)) (aN))))) (sSeq (sWh (tNo (tOf (eCall' 1 m__law_is_tree (aC (eV 1) (aN))))) (sSet 1 (e2 gIx (eV 1) (eCall' 2 m__law_take (aC (eV 0) (aC (eB gLen (aC (eV 1) (aN))) (aN))))))) (sRet (eV 1)))
noncomputable def m__law_good_tree : MF := fnD 2 b__law_good_tree
noncomputable def b__law_ahead (r__law_ahead : MF) : MS := sSeq (sIf (tO (tOf (e1 (gIsi "str") (eV 0))) (tOf (e1 (gIsi "str") (eV 1)))) (sRet (eAn (e1 (gIsi "str") (eV 0)) (eO (eNo (e1 (gIsi "str") (eV 1))) (e2 gLt (eV 0) (eV 1))))) (sPass)) (sSeq (sForR (eB gMin2 (aC (eB gLen (aC (eV 0) (aN))) (aC (eB gLen (aC (eV 1) (aN))) (aN)))) (mNm 2) (sIf (tOf (e2 gNe (e2 gIx (eV 0) (eV 2)) (e2 gIx (eV 1) (eV 2)))) (sRet (eCall' 2 r__law_ahead (aC (e2 gIx (eV 0) (eV 2)) (aC (e2 gIx (eV 1) (eV 2)) (aN))))) (sPass))) (sRet (e2 gLt (eB gLen (aC (eV 0) (aN))) (eB gLen (aC (eV 1) (aN))))))
noncomputable def m__law_ahead : Nat → MF
  | 0 => fun _ _ => .bad
  | n + 1 => fnD 3 (b__law_ahead (m__law_ahead n))
noncomputable def b__law_like (r__law_like : MF) : MS := sSeq (sSet 2 (eCall' 1 m__law_good_tree (aC (eV 1) (aN)))) (sSeq (sIf (tO (tOf (e1 (gIsi "str") (eV 0))) (tOf (e2 gEq (eV 0) (eTup (aN))))) (sRet (eV 2)) (sPass)) (sSeq (sSet 3 (eCall' 2 m__law_take (aC (eV 1) (aC (eB gLen (aC (eV 0) (aN))) (aN))))) (sSeq (sSet 4 (eCall' 2 m__law_take (aC (eV 1) (aC (eC (.int 4)) (aN))))) (sSeq (sIf (tOf (e2 gEq (eV 4) (eC (.int 0)))) (sRet (e2 gAdd (eSlH (eV 0) (eV 3)) (eSlL (eV 0) (e2 gAdd (eV 3) (eC (.int 1)))))) (sPass)) (sSeq (sIf (tOf (e2 gEq (eV 4) (eC (.int 1)))) (sRet (e2 gAdd (e2 gAdd (eSlH (eV 0) (eV 3)) (eTup (aC (eV 2) (aN)))) (eSlL (eV 0) (e2 gAdd (eV 3) (eC (.int 1)))))) (sPass)) (sSeq (sIf (tOf (e2 gEq (eV 4) (eC (.int 2)))) (sRet (e2 gAdd (eV 0) (eTup (aC (eV 2) (aN))))) (sPass)) (sRet (e2 gAdd (e2 gAdd (eSlH (eV 0) (eV 3)) (eTup (aC (eCall' 2 r__law_like (aC (e2 gIx (eV 0) (eV 3)) (aC (eV 1) (aN)))) (aN)))) (eSlL (eV 0) (e2 gAdd (eV 3) (eC (.int 1))))))))))))
noncomputable def m__law_like : Nat → MF
  | 0 => fun _ _ => .bad
  | n + 1 => fnD 5 (b__law_like (m__law_like n))
noncomputable def b__law_three : MS := sSeq (sSet 2 (eLcG (aC (eC (.int 3)) (aN)) (mNm 4) (tYs) (eCall' 2 m__law_pot (aC (e2 gIx (eV 0) (e2 gMod (e2 gAdd (eV 1) (eV 4)) (eB gLen (aC (eV 0) (aN))))) (aC (e2 gAdd (eC (.int 4)) (eV 4)) (aN)))) [4])) (sSeq (sSet 3 (eNew (aC (eCall' 1 m__law_good_tree (aC (e2 gIx (eV 2) (eC (.int 0))) (aN))) (aN)))) (sSeq (sForG (aC (eC (.int 1)) (aC (eC (.int 3)) aN)) (mNm 4) (sSeq (sSet 5 (eCall' 1 m__law_good_tree (aC (e2 gIx (eV 2) (eV 4)) (aN)))) (sSeq (sIf (tOf (e2 gEq (eCall' 2 m__law_take (aC (e2 gIx (eV 2) (eV 4)) (aC (eC (.int 2)) (aN)))) (eC (.int 1)))) (sSet 5 (eCall' 2 (m__law_like 60) (aC (e2 gIx (eV 3) (e2 gSub (eV 4) (eC (.int 1)))) (aC (e2 gIx (eV 2) (eV 4)) (aN))))) (sPass)) (sSeq (sIf (tNo (tOf (eCall' 1 m__law_is_tree (aC (eV 5) (aN))))) (sSet 5 (e2 gIx (eV 3) (eC (.int 0)))) (sPass)) (sEx (eApp (eV 3) (eV 5))))))) (sRet (eV 3))))
noncomputable def m__law_three : MF := fnD 6 b__law_three
noncomputable def b_law : MS := sSeq (sSet 1 (e2 gAdd (eB gList (aC (eSlH (eV 0) (eC (.int 30))) (aN))) (eLst (aC (eB gLen (aC (eV 0) (aN))) (aN))))) (sSeq (sForR (eB gLen (aC (eV 1) (aN))) (mNm 2) (sSeq (sSet 3 (eCall' 2 m__law_three (aC (eV 1) (aC (eV 2) (aN))))) (sSeq (sFor (eV 3) (mNm 4) (sFor (eV 3) (mNm 5) (sSeq (sSet 6 (eCall' 2 m_is_ahead (aC (eV 4) (aC (eV 5) (aN))))) (sSeq (sIf (tO (tNo (tOf (e1 (gIsi "bool") (eV 6)))) (tOf (e2 gNe (eV 6) (eCall' 2 (m__law_ahead 60) (aC (eV 4) (aC (eV 5) (aN))))))) (sRet (eC (.bl false))) (sPass)) (sSeq (sSet 7 (e2 gEq (eCall' 1 (m_tree_text 60) (aC (eV 4) (aN))) (eCall' 1 (m_tree_text 60) (aC (eV 5) (aN))))) (sIf (tO (tOf (e2 gNe (eV 7) (e2 gEq (eV 4) (eV 5)))) (tOf (e2 gNe (eCnt (eLst (aC (eV 6) (aC (eCall' 2 m_is_ahead (aC (eV 5) (aC (eV 4) (aN)))) (aC (eV 7) (aN))))) (eC (.bl true))) (eC (.int 1))))) (sRet (eC (.bl false))) (sPass))))))) (sSeq (sAsg (mTup 3 (mCons (mNm 4) (mCons (mNm 8) (mCons (mNm 9) (mNil))))) (eV 3)) (sIf (tAn (tOf (eCall' 2 m_is_ahead (aC (eV 4) (aC (eV 8) (aN))))) (tAn (tOf (eCall' 2 m_is_ahead (aC (eV 8) (aC (eV 9) (aN))))) (tNo (tOf (eCall' 2 m_is_ahead (aC (eV 4) (aC (eV 9) (aN)))))))) (sRet (eC (.bl false))) (sPass)))))) (sRet (eC (.bl true))))
noncomputable def m_law : MF := fnK 10 b_law

end Law

namespace Law
open PySem PySem.Spec PyProof.Rows L2 DL
def topS (i : Nat) : Stmt := PySem.Challenge.pw_askwright_k04_whole_trees_in_order.main.body.getD i (.Pass ⟨0, 0, 0, 0⟩)
abbrev s_tree_text : Stmt := topS 1
theorem sc_tree_text : FnScope ["tree", "part"] ["tree"] (defScope s_tree_text) := ⟨rfl, rfl, rfl, by decide +kernel, rfl, by decide +kernel, by decide +kernel⟩
abbrev s_tree_key : Stmt := topS 2
theorem sc_tree_key : FnScope ["tree", "part"] ["tree"] (defScope s_tree_key) := ⟨rfl, rfl, rfl, by decide +kernel, rfl, by decide +kernel, by decide +kernel⟩
abbrev s_is_ahead : Stmt := topS 3
theorem sc_is_ahead : FnScope ["one", "other"] ["one", "other"] (defScope s_is_ahead) := ⟨rfl, rfl, rfl, by decide +kernel, rfl, by decide +kernel, by decide +kernel⟩
abbrev s__law_pot : Stmt := topS 5
theorem sc__law_pot : FnScope ["cell", "salt"] ["cell", "salt"] (defScope s__law_pot) := ⟨rfl, rfl, rfl, by decide +kernel, rfl, by decide +kernel, by decide +kernel⟩
abbrev s__law_take : Stmt := topS 6
theorem sc__law_take : FnScope ["pot", "many", "digit"] ["pot", "many"] (defScope s__law_take) := ⟨rfl, rfl, rfl, by decide +kernel, rfl, by decide +kernel, by decide +kernel⟩
abbrev s__law_signs : Stmt := topS 7
theorem sc__law_signs : FnScope ["some"] [] (defScope s__law_signs) := ⟨rfl, rfl, rfl, by decide +kernel, rfl, by decide +kernel, by decide +kernel⟩
abbrev s__law_text : Stmt := topS 8
theorem sc__law_text : FnScope ["pot", "signs", "text", "k"] ["pot"] (defScope s__law_text) := ⟨rfl, rfl, rfl, by decide +kernel, rfl, by decide +kernel, by decide +kernel⟩
abbrev s__law_tree : Stmt := topS 9
theorem sc__law_tree : FnScope ["pot", "deep", "kind", "tree", "k"] ["pot", "deep"] (defScope s__law_tree) := ⟨rfl, rfl, rfl, by decide +kernel, rfl, by decide +kernel, by decide +kernel⟩
abbrev s__law_measure : Stmt := topS 10
theorem sc__law_measure : FnScope ["value", "signs", "parts", "good", "sign", "part"] ["value"] (defScope s__law_measure) := ⟨rfl, rfl, rfl, by decide +kernel, rfl, by decide +kernel, by decide +kernel⟩
abbrev s__law_is_tree : Stmt := topS 11
theorem sc__law_is_tree : FnScope ["value", "good", "size", "deep"] ["value"] (defScope s__law_is_tree) := ⟨rfl, rfl, rfl, by decide +kernel, rfl, by decide +kernel, by decide +kernel⟩
abbrev s__law_good_tree : Stmt := topS 12
theorem sc__law_good_tree : FnScope ["pot", "tree"] ["pot"] (defScope s__law_good_tree) := ⟨rfl, rfl, rfl, by decide +kernel, rfl, by decide +kernel, by decide +kernel⟩
abbrev s__law_ahead : Stmt := topS 13
theorem sc__law_ahead : FnScope ["one", "other", "k"] ["one", "other"] (defScope s__law_ahead) := ⟨rfl, rfl, rfl, by decide +kernel, rfl, by decide +kernel, by decide +kernel⟩
abbrev s__law_like : Stmt := topS 14
theorem sc__law_like : FnScope ["tree", "pot", "part", "at", "way"] ["tree", "pot"] (defScope s__law_like) := ⟨rfl, rfl, rfl, by decide +kernel, rfl, by decide +kernel, by decide +kernel⟩
abbrev s__law_three : Stmt := topS 15
theorem sc__law_three : FnScope ["script", "k", "pots", "trees", "j", "tree"] ["script", "k"] (defScope s__law_three) := ⟨rfl, rfl, rfl, by decide +kernel, rfl, by decide +kernel, by decide +kernel⟩
abbrev s_law : Stmt := topS 16
theorem sc_law : FnScope ["script", "cells", "k", "trees", "one", "other", "found", "same", "two", "three"] ["script"] (defScope s_law) := ⟨rfl, rfl, rfl, by decide +kernel, rfl, by decide +kernel, by decide +kernel⟩
/-- what the top has written -/
structure Txt (mg : Str → Option Value) : Prop where
  n_abs : mg "abs" = none
  n_all : mg "all" = none
  n_bool : mg "bool" = none
  n_isinstance : mg "isinstance" = none
  n_len : mg "len" = none
  n_list : mg "list" = none
  n_max : mg "max" = none
  n_min : mg "min" = none
  n_range : mg "range" = none
  n_str : mg "str" = none
  n_sum : mg "sum" = none
  n_tuple : mg "tuple" = none
section
variable {P : Program} {w : World} {K : PySem.W.Frag} {mg : Str → Option Value} {base : Heap} {cA : Str → Addr}
theorem ok_tree_text {f : Addr} {fd : FuncData} (T : Txt mg)  (n : Nat) (R_tree_text : FD P w K mg base cA (1 + n) "tree_text" 1 (m_tree_text n)) (F : Fun K "tree_text" "tree_text" s_tree_text f fd) (mgf : mg "tree_text" = some (.ref f)) (kp : PySem.W.keepIn K (.ref f) = true) (bd : Binds K fd ["tree"] []) : FD P w K mg base cA (1 + (n + 1)) "tree_text" 1 (m_tree_text (n + 1)) :=
  FD.drop (N := 2) (body := b_tree_text (m_tree_text n)) (fd_mk (body := b_tree_text (m_tree_text n)) (N := ["tree", "part"]) (ps := ["tree"]) (k := 1 + n) F mgf kp bd sc_tree_text (fun cdv A outer s H E hr =>
    (z_cons (s_if (k_val (q_isi (n := "str") (by rfl) T.n_isinstance (q_v (pv 0)) (q_ty (by rfl) T.n_str (by decide +kernel)))) (z_one (s_ret (q_op o_add (q_opC o_add (qt_rep (qt_rep (qt_of (q_v (pv 0)))))) (q_str)))) (z_nil))
    (z_one (s_ret (q_op o_add (q_op o_add (q_str) (q_join (q_str) (q_lc (own := [("part", 1)]) (g := gName 1) (g_nm) (by decide) rfl sc_tree_text.nd (q_v (pv 0)) (blkOk_by (N := ["tree", "part"]) (sc := defScope s_tree_text) (by decide +kernel)) (fun _ _ _ _ _ => pg_name (i := 1) sc_tree_text.nd rfl (.inl rfl)) (fun _ _ _ _ _ => x_nil) (fun _ _ _ _ _ => q_call takes0 R_tree_text hr (Nat.le_refl _) (by rfl) (a_cons (q_v (pv 1)) (a_nil)))))) (q_str)))))))
theorem ok_tree_key {f : Addr} {fd : FuncData} (T : Txt mg)  (n : Nat) (R_tree_key : FD P w K mg base cA (1 + n) "tree_key" 1 (m_tree_key n)) (F : Fun K "tree_key" "tree_key" s_tree_key f fd) (mgf : mg "tree_key" = some (.ref f)) (kp : PySem.W.keepIn K (.ref f) = true) (bd : Binds K fd ["tree"] []) : FD P w K mg base cA (1 + (n + 1)) "tree_key" 1 (m_tree_key (n + 1)) :=
  FD.drop (N := 2) (body := b_tree_key (m_tree_key n)) (fd_mk (body := b_tree_key (m_tree_key n)) (N := ["tree", "part"]) (ps := ["tree"]) (k := 1 + n) F mgf kp bd sc_tree_key (fun cdv A outer s H E hr =>
    (z_cons (s_if (k_val (q_isi (n := "str") (by rfl) T.n_isinstance (q_v (pv 0)) (q_ty (by rfl) T.n_str (by decide +kernel)))) (z_one (s_ret (q_tup (a_cons (q_int) (a_cons (q_v (pv 0)) (a_nil)))))) (z_nil))
    (z_one (s_ret (q_tup (a_cons (q_int) (a_cons (q_callT c_tuple (by rfl) T.n_tuple (by decide +kernel) (a_cons (q_lc (own := [("part", 1)]) (g := gName 1) (g_nm) (by decide) rfl sc_tree_key.nd (q_v (pv 0)) (blkOk_by (N := ["tree", "part"]) (sc := defScope s_tree_key) (by decide +kernel)) (fun _ _ _ _ _ => pg_name (i := 1) sc_tree_key.nd rfl (.inl rfl)) (fun _ _ _ _ _ => x_nil) (fun _ _ _ _ _ => q_call takes0 R_tree_key hr (Nat.le_refl _) (by rfl) (a_cons (q_v (pv 1)) (a_nil)))) (a_nil))) (a_nil)))))))))
theorem ok_is_ahead {f : Addr} {fd : FuncData} (T : Txt mg) (F_tree_key : FD P w K mg base cA 61 "tree_key" 1 (m_tree_key 60)) (F : Fun K "is_ahead" "is_ahead" s_is_ahead f fd) (mgf : mg "is_ahead" = some (.ref f)) (kp : PySem.W.keepIn K (.ref f) = true) (bd : Binds K fd ["one", "other"] []) : FD P w K mg base cA 62 "is_ahead" 2 m_is_ahead :=
  FD.drop (N := 2) (body := b_is_ahead) (fd_mk (body := b_is_ahead) (N := ["one", "other"]) (ps := ["one", "other"]) (k := 61) F mgf kp bd sc_is_ahead (fun cdv A outer s H E hr =>
    (z_one (s_ret (q_cmp (o_ltP hr.units) (q_call (takes_of rfl rfl rfl rfl) F_tree_key hr (by decide) (by rfl) (a_cons (q_v (pv 0)) (a_nil))) (q_call (takes_of rfl rfl rfl rfl) F_tree_key hr (by decide) (by rfl) (a_cons (q_v (pv 1)) (a_nil))))))))
theorem ok__law_pot {f : Addr} {fd : FuncData} (T : Txt mg)  (F : Fun K "_law_pot" "_law_pot" s__law_pot f fd) (mgf : mg "_law_pot" = some (.ref f)) (kp : PySem.W.keepIn K (.ref f) = true) (bd : Binds K fd ["cell", "salt"] []) : FD P w K mg base cA 1 "_law_pot" 2 m__law_pot :=
  (fd_mk (body := b__law_pot) (N := ["cell", "salt"]) (ps := ["cell", "salt"]) (k := 0) F mgf kp bd sc__law_pot (fun cdv A outer s H E hr =>
    (z_cons (s_if (k_cmp o_geI (q_callB c_abs (by rfl) T.n_abs (by decide +kernel) (a_cons (q_v (pv 0)) (a_nil))) (q_op o_pow (q_int) (q_int))) (z_one (s_ret (q_new (a_cons (q_callB c_abs (by rfl) T.n_abs (by decide +kernel) (a_cons (q_v (pv 0)) (a_nil))) (a_cons (q_v (pv 1)) (a_nil)))))) (z_nil))
    (z_one (s_ret (q_new (a_cons (q_int) (a_cons (q_op o_mod (q_op o_mul (q_op o_add (q_op o_add (q_op o_mod (q_v (pv 0)) (q_int)) (q_op o_mul (q_int) (q_v (pv 1)))) (q_int)) (q_int)) (q_int)) (a_nil)))))))))
theorem ok__law_take {f : Addr} {fd : FuncData} (T : Txt mg)  (F : Fun K "_law_take" "_law_take" s__law_take f fd) (mgf : mg "_law_take" = some (.ref f)) (kp : PySem.W.keepIn K (.ref f) = true) (bd : Binds K fd ["pot", "many"] []) : FD P w K mg base cA 1 "_law_take" 2 m__law_take :=
  FD.drop (N := 3) (body := b__law_take) (fd_mk (body := b__law_take) (N := ["pot", "many", "digit"]) (ps := ["pot", "many"]) (k := 0) F mgf kp bd sc__law_take (fun cdv A outer s H E hr =>
    (z_cons (s_if (k_cmp o_gtI (q_ix (q_v (pv 0)) (q_int)) (q_int)) (z_cons (s_set (ps_set (i := 2) sc__law_take.nd rfl (.inl rfl) (q_op o_mod (q_ix (q_v (pv 0)) (q_int)) (q_v (pv 1)))))
    (z_cons (s_setI (fun hv ho hi => ps_asg hv (pg_sub ho hi set_list)) (q_op o_fdiv (q_ix (q_v (pv 0)) (q_int)) (q_v (pv 1))) (q_v (pv 0)) (q_int))
    (z_one (s_ret (q_v (pv 2)))))) (z_nil))
    (z_cons (s_setI (fun hv ho hi => ps_asg hv (pg_sub ho hi set_list)) (q_op o_mod (q_op o_add (q_op o_mul (q_ix (q_v (pv 0)) (q_int)) (q_ix (q_v (pv 0)) (q_int))) (q_int)) (q_int)) (q_v (pv 0)) (q_int))
    (z_one (s_ret (q_op o_mod (q_op o_fdiv (q_op o_mod (q_op o_mul (q_ix (q_v (pv 0)) (q_int)) (q_int)) (q_int)) (q_int)) (q_v (pv 1)))))))))
theorem ok__law_signs {f : Addr} {fd : FuncData} (T : Txt mg)  (F : Fun K "_law_signs" "_law_signs" s__law_signs f fd) (mgf : mg "_law_signs" = some (.ref f)) (kp : PySem.W.keepIn K (.ref f) = true) (bd : Binds K fd [] []) : FD P w K mg base cA 1 "_law_signs" 0 m__law_signs :=
  FD.drop (N := 1) (body := b__law_signs) (fd_mk (body := b__law_signs) (N := ["some"]) (ps := []) (k := 0) F mgf kp bd sc__law_signs (fun cdv A outer s H E hr =>
    (z_cons (s_set (ps_set (i := 0) sc__law_signs.nd rfl (.inl rfl) (q_str)))
    (z_one (s_ret (q_op o_add (q_op o_add (q_op o_add (q_op o_add (q_v (pv 0)) (q_str)) (q_str)) (q_str)) (q_str)))))))
theorem ok__law_text {f : Addr} {fd : FuncData} (T : Txt mg) (F__law_signs : FD P w K mg base cA 1 "_law_signs" 0 m__law_signs) (F__law_take : FD P w K mg base cA 1 "_law_take" 2 m__law_take) (F : Fun K "_law_text" "_law_text" s__law_text f fd) (mgf : mg "_law_text" = some (.ref f)) (kp : PySem.W.keepIn K (.ref f) = true) (bd : Binds K fd ["pot"] []) : FD P w K mg base cA 2 "_law_text" 1 m__law_text :=
  FD.drop (N := 4) (body := b__law_text) (fd_mk (body := b__law_text) (N := ["pot", "signs", "text", "k"]) (ps := ["pot"]) (k := 1) F mgf kp bd sc__law_text (fun cdv A outer s H E hr =>
    (z_cons (s_set (ps_set (i := 1) sc__law_text.nd rfl (.inl rfl) (q_call0 (takes_of rfl rfl rfl rfl) F__law_signs hr (by decide) (by rfl))))
    (z_cons (s_set (ps_set (i := 2) sc__law_text.nd rfl (.inl rfl) (q_str)))
    (z_cons (s_forR (passes_of rfl) rfl (by rfl) T.n_range (a_cons (q_call (takes_of rfl rfl rfl rfl) F__law_take hr (by decide) (by rfl) (a_cons (q_v (pv 0)) (a_cons (q_int) (a_nil)))) a_nil) (pg_name (i := 3) sc__law_text.nd rfl (.inl rfl)) (g_nm) (z_one (s_set (ps_set (i := 2) sc__law_text.nd rfl (.inl rfl) (q_op o_add (q_v (pv 2)) (q_ix (q_v (pv 1)) (q_call (takes_of rfl rfl rfl rfl) F__law_take hr (by decide) (by rfl) (a_cons (q_v (pv 0)) (a_cons (q_callB c_len (by rfl) T.n_len (by decide +kernel) (a_cons (q_v (pv 1)) (a_nil))) (a_nil))))))))))
    (z_cons (s_if (k_cmp (o_eq hr.units) (q_call (takes_of rfl rfl rfl rfl) F__law_take hr (by decide) (by rfl) (a_cons (q_v (pv 0)) (a_cons (q_int) (a_nil)))) (q_int)) (z_one (s_set (ps_set (i := 2) sc__law_text.nd rfl (.inl rfl) (q_op o_add (q_v (pv 2)) (q_op o_mul (q_str) (q_op o_sub (q_op o_add (q_int) (q_call (takes_of rfl rfl rfl rfl) F__law_take hr (by decide) (by rfl) (a_cons (q_v (pv 0)) (a_cons (q_int) (a_nil))))) (q_callB c_len (by rfl) T.n_len (by decide +kernel) (a_cons (q_v (pv 2)) (a_nil))))))))) (z_nil))
    (z_one (s_ret (q_v (pv 2))))))))))
theorem ok__law_tree {f : Addr} {fd : FuncData} (T : Txt mg) (F__law_take : FD P w K mg base cA 1 "_law_take" 2 m__law_take) (F__law_text : FD P w K mg base cA 2 "_law_text" 1 m__law_text) (n : Nat) (R__law_tree : FD P w K mg base cA (3 + n) "_law_tree" 2 (m__law_tree n)) (F : Fun K "_law_tree" "_law_tree" s__law_tree f fd) (mgf : mg "_law_tree" = some (.ref f)) (kp : PySem.W.keepIn K (.ref f) = true) (bd : Binds K fd ["pot", "deep"] []) : FD P w K mg base cA (3 + (n + 1)) "_law_tree" 2 (m__law_tree (n + 1)) :=
  FD.drop (N := 5) (body := b__law_tree (m__law_tree n)) (fd_mk (body := b__law_tree (m__law_tree n)) (N := ["pot", "deep", "kind", "tree", "k"]) (ps := ["pot", "deep"]) (k := 3 + n) F mgf kp bd sc__law_tree (fun cdv A outer s H E hr =>
    (z_cons (s_set (ps_set (i := 2) sc__law_tree.nd rfl (.inl rfl) (q_call (takes_of rfl rfl rfl rfl) F__law_take hr (by omega) (by rfl) (a_cons (q_v (pv 0)) (a_cons (q_int) (a_nil))))))
    (z_cons (s_if ((w_or (k_cmp (o_eq hr.units) (q_v (pv 1)) (q_int)) (w_or1 (k_cmp o_lt (q_v (pv 2)) (q_int)))).pt) (z_one (s_ret (q_call (takes_of rfl rfl rfl rfl) F__law_text hr (by omega) (by rfl) (a_cons (q_v (pv 0)) (a_nil))))) (z_nil))
    (z_cons (s_if (k_cmp (o_eq hr.units) (q_v (pv 2)) (q_int)) (z_cons (s_set (ps_set (i := 3) sc__law_tree.nd rfl (.inl rfl) (q_call (takes_of rfl rfl rfl rfl) R__law_tree hr (Nat.le_refl _) (by rfl) (a_cons (q_v (pv 0)) (a_cons (q_op o_sub (q_v (pv 1)) (q_int)) (a_nil))))))
    (z_cons (s_forR (passes_of rfl) rfl (by rfl) T.n_range (a_cons (q_call (takes_of rfl rfl rfl rfl) F__law_take hr (by omega) (by rfl) (a_cons (q_v (pv 0)) (a_cons (q_int) (a_nil)))) a_nil) (pg_name (i := 4) sc__law_tree.nd rfl (.inl rfl)) (g_nm) (z_one (s_set (ps_set (i := 3) sc__law_tree.nd rfl (.inl rfl) (q_tup (a_cons (q_v (pv 3)) (a_nil)))))))
    (z_one (s_ret (q_v (pv 3)))))) (z_nil))
    (z_one (s_ret (q_callT c_tuple (by rfl) T.n_tuple (by decide +kernel) (a_cons (q_lcG w_rng1 (own := [("k", 4)]) (g := gName 4) (g_nm) (by decide) rfl sc__law_tree.nd (i_rng1 (by rfl) T.n_range (q_call (takes_of rfl rfl rfl rfl) F__law_take hr (by omega) (by rfl) (a_cons (q_v (pv 0)) (a_cons (q_int) (a_nil))))) (blkOk_by (N := ["pot", "deep", "kind", "tree", "k"]) (sc := defScope s__law_tree) (by decide +kernel)) (fun _ _ _ _ _ => pg_name (i := 4) sc__law_tree.nd rfl (.inl rfl)) (fun _ _ _ _ _ => x_nil) (fun _ _ _ _ _ => q_call takes0 R__law_tree hr (Nat.le_refl _) (by rfl) (a_cons (q_v (pv 0)) (a_cons (q_op o_sub (q_v (pv 1)) (q_int)) (a_nil))))) (a_nil))))))))))
theorem ok__law_measure {f : Addr} {fd : FuncData} (T : Txt mg) (F__law_signs : FD P w K mg base cA 1 "_law_signs" 0 m__law_signs) (n : Nat) (R__law_measure : FD P w K mg base cA (2 + n) "_law_measure" 1 (m__law_measure n)) (F : Fun K "_law_measure" "_law_measure" s__law_measure f fd) (mgf : mg "_law_measure" = some (.ref f)) (kp : PySem.W.keepIn K (.ref f) = true) (bd : Binds K fd ["value"] []) : FD P w K mg base cA (2 + (n + 1)) "_law_measure" 1 (m__law_measure (n + 1)) :=
  FD.drop (N := 6) (body := b__law_measure (m__law_measure n)) (fd_mk (body := b__law_measure (m__law_measure n)) (N := ["value", "signs", "parts", "good", "sign", "part"]) (ps := ["value"]) (k := 2 + n) F mgf kp bd sc__law_measure (fun cdv A outer s H E hr =>
    (z_cons (s_if (k_val (q_isi (n := "str") (by rfl) T.n_isinstance (q_v (pv 0)) (q_ty (by rfl) T.n_str (by decide +kernel)))) (z_cons (s_set (ps_set (i := 1) sc__law_measure.nd rfl (.inr rfl) (q_call0 (takes_of rfl rfl rfl rfl) F__law_signs hr (by omega) (by rfl))))
    (z_one (s_ret (q_tup (a_cons (q_and (q_cmp o_le (q_callB c_len (by rfl) T.n_len (by decide +kernel) (a_cons (q_v (pv 0)) (a_nil))) (q_int)) (q_one (q_callB (c_all rfl) (by rfl) T.n_all (by decide +kernel) (a_cons (q_lc (own := [("sign", 4)]) (g := gName 4) (g_nm) (by decide) rfl sc__law_measure.nd (q_v (pv 0)) (blkOk_by (N := ["value", "signs", "parts", "good", "sign", "part"]) (sc := defScope s__law_measure) (by decide +kernel)) (fun _ _ _ _ _ => pg_name (i := 4) sc__law_measure.nd rfl (.inl rfl)) (fun _ _ _ _ _ => x_nil) (fun _ _ _ _ _ => q_cmp o_in (q_v (pv 4)) (q_v (pv 1)))) (a_nil))))) (a_cons (q_op o_add (q_callB c_len (by rfl) T.n_len (by decide +kernel) (a_cons (q_v (pv 0)) (a_nil))) (q_int)) (a_cons (q_int) (a_nil)))))))) (z_nil))
    (z_cons (s_if (k_not (k_val (q_isi (n := "tuple") (by rfl) T.n_isinstance (q_v (pv 0)) (q_ty (by rfl) T.n_tuple (by decide +kernel))))) (z_one (s_ret (q_tup (a_cons (q_bl) (a_cons (q_int) (a_cons (q_int) (a_nil))))))) (z_nil))
    (z_cons (s_setLc (i := 2) (own := [("part", 5)]) (g := gName 5) (g_nm) (by decide) rfl sc__law_measure.nd rfl rfl (sw_true rfl rfl rfl (by decide +kernel)) (q_v (pv 0)) (blkOk_by (N := ["value", "signs", "parts", "good", "sign", "part"]) (sc := defScope s__law_measure) (by decide +kernel)) (fun _ _ _ _ _ => pg_name (i := 5) sc__law_measure.nd rfl (.inl rfl)) (fun _ _ _ _ _ => x_nil) (fun _ _ _ _ _ => q_call takes0 R__law_measure hr (Nat.le_refl _) (by rfl) (a_cons (q_v (pv 5)) (a_nil))))
    (z_cons (s_set (ps_set (i := 3) sc__law_measure.nd rfl (.inl rfl) (q_and (q_cmp o_le (q_callB c_len (by rfl) T.n_len (by decide +kernel) (a_cons (q_v (pv 0)) (a_nil))) (q_int)) (q_one (q_callB (c_all rfl) (by rfl) T.n_all (by decide +kernel) (a_cons (q_lc (own := [("part", 5)]) (g := gName 5) (g_nm) (by decide) rfl sc__law_measure.nd (q_v (pv 2)) (blkOk_by (N := ["value", "signs", "parts", "good", "sign", "part"]) (sc := defScope s__law_measure) (by decide +kernel)) (fun _ _ _ _ _ => pg_name (i := 5) sc__law_measure.nd rfl (.inl rfl)) (fun _ _ _ _ _ => x_nil) (fun _ _ _ _ _ => q_ix (q_v (pv 5)) (q_int))) (a_nil)))))))
    (z_one (s_ret (q_tup (a_cons (q_v (pv 3)) (a_cons (q_op o_add (q_int) (q_callB (c_sum rfl) (by rfl) T.n_sum (by decide +kernel) (a_cons (q_lc (own := [("part", 5)]) (g := gName 5) (g_nm) (by decide) rfl sc__law_measure.nd (q_v (pv 2)) (blkOk_by (N := ["value", "signs", "parts", "good", "sign", "part"]) (sc := defScope s__law_measure) (by decide +kernel)) (fun _ _ _ _ _ => pg_name (i := 5) sc__law_measure.nd rfl (.inl rfl)) (fun _ _ _ _ _ => x_nil) (fun _ _ _ _ _ => q_ix (q_v (pv 5)) (q_int))) (a_nil)))) (a_cons (q_op o_add (q_int) (q_maxD rfl (by rfl) T.n_max (q_lc (own := [("part", 5)]) (g := gName 5) (g_nm) (by decide) rfl sc__law_measure.nd (q_v (pv 2)) (blkOk_by (N := ["value", "signs", "parts", "good", "sign", "part"]) (sc := defScope s__law_measure) (by decide +kernel)) (fun _ _ _ _ _ => pg_name (i := 5) sc__law_measure.nd rfl (.inl rfl)) (fun _ _ _ _ _ => x_nil) (fun _ _ _ _ _ => q_ix (q_v (pv 5)) (q_int))) (q_int))) (a_nil)))))))))))))
theorem ok__law_is_tree {f : Addr} {fd : FuncData} (T : Txt mg) (F__law_measure : FD P w K mg base cA 62 "_law_measure" 1 (m__law_measure 60)) (F : Fun K "_law_is_tree" "_law_is_tree" s__law_is_tree f fd) (mgf : mg "_law_is_tree" = some (.ref f)) (kp : PySem.W.keepIn K (.ref f) = true) (bd : Binds K fd ["value"] []) : FD P w K mg base cA 63 "_law_is_tree" 1 m__law_is_tree :=
  FD.drop (N := 4) (body := b__law_is_tree) (fd_mk (body := b__law_is_tree) (N := ["value", "good", "size", "deep"]) (ps := ["value"]) (k := 62) F mgf kp bd sc__law_is_tree (fun cdv A outer s H E hr =>
    (z_cons (s_asg (g_tup (g_cons (g_nm) (g_cons (g_nm) (g_cons (g_nm) (g_nil))))) (ps_asg (q_call (takes_of rfl rfl rfl rfl) F__law_measure hr (by decide) (by rfl) (a_cons (q_v (pv 0)) (a_nil))) (pgTL rfl (pgs_cons (pg_name (i := 1) sc__law_is_tree.nd rfl (.inl rfl)) (pgs_cons (pg_name (i := 2) sc__law_is_tree.nd rfl (.inl rfl)) (pgs_cons (pg_name (i := 3) sc__law_is_tree.nd rfl (.inl rfl)) (pgs_nil)))))))
    (z_one (s_ret (q_and (q_v (pv 1)) (q_and (q_cmp o_le (q_v (pv 2)) (q_int)) (q_one (q_cmp o_le (q_v (pv 3)) (q_int))))))))))
theorem ok__law_good_tree {f : Addr} {fd : FuncData} (T : Txt mg) (F__law_tree : FD P w K mg base cA 63 "_law_tree" 2 (m__law_tree 60)) (F__law_is_tree : FD P w K mg base cA 63 "_law_is_tree" 1 m__law_is_tree) (F__law_take : FD P w K mg base cA 1 "_law_take" 2 m__law_take) (F : Fun K "_law_good_tree" "_law_good_tree" s__law_good_tree f fd) (mgf : mg "_law_good_tree" = some (.ref f)) (kp : PySem.W.keepIn K (.ref f) = true) (bd : Binds K fd ["pot"] []) : FD P w K mg base cA 64 "_law_good_tree" 1 m__law_good_tree :=
  FD.drop (N := 2) (body := b__law_good_tree) (fd_mk (body := b__law_good_tree) (N := ["pot", "tree"]) (ps := ["pot"]) (k := 63) F mgf kp bd sc__law_good_tree (fun cdv A outer s H E hr =>
    (z_cons (s_set (ps_set (i := 1) sc__law_good_tree.nd rfl (.inl rfl) (q_call (takes_of rfl rfl rfl rfl) F__law_tree hr (by decide) (by rfl) (a_cons (q_v (pv 0)) (a_cons (q_int) (a_nil))))))
    (z_cons (s_wh (passes_of rfl) (k_not (k_val (q_call (takes_of rfl rfl rfl rfl) F__law_is_tree hr (by decide) (by rfl) (a_cons (q_v (pv 1)) (a_nil))))) (z_one (s_set (ps_set (i := 1) sc__law_good_tree.nd rfl (.inl rfl) (q_ix (q_v (pv 1)) (q_call (takes_of rfl rfl rfl rfl) F__law_take hr (by decide) (by rfl) (a_cons (q_v (pv 0)) (a_cons (q_callB c_len (by rfl) T.n_len (by decide +kernel) (a_cons (q_v (pv 1)) (a_nil))) (a_nil)))))))))
    (z_one (s_ret (q_v (pv 1))))))))
theorem ok__law_ahead {f : Addr} {fd : FuncData} (T : Txt mg)  (n : Nat) (R__law_ahead : FD P w K mg base cA (1 + n) "_law_ahead" 2 (m__law_ahead n)) (F : Fun K "_law_ahead" "_law_ahead" s__law_ahead f fd) (mgf : mg "_law_ahead" = some (.ref f)) (kp : PySem.W.keepIn K (.ref f) = true) (bd : Binds K fd ["one", "other"] []) : FD P w K mg base cA (1 + (n + 1)) "_law_ahead" 2 (m__law_ahead (n + 1)) :=
  FD.drop (N := 3) (body := b__law_ahead (m__law_ahead n)) (fd_mk (body := b__law_ahead (m__law_ahead n)) (N := ["one", "other", "k"]) (ps := ["one", "other"]) (k := 1 + n) F mgf kp bd sc__law_ahead (fun cdv A outer s H E hr =>
    (z_cons (s_if ((w_or (k_val (q_isi (n := "str") (by rfl) T.n_isinstance (q_v (pv 0)) (q_ty (by rfl) T.n_str (by decide +kernel)))) (w_or1 (k_val (q_isi (n := "str") (by rfl) T.n_isinstance (q_v (pv 1)) (q_ty (by rfl) T.n_str (by decide +kernel)))))).pt) (z_one (s_ret (q_and (q_isi (n := "str") (by rfl) T.n_isinstance (q_v (pv 0)) (q_ty (by rfl) T.n_str (by decide +kernel))) (q_one (q_or (q_not (q_isi (n := "str") (by rfl) T.n_isinstance (q_v (pv 1)) (q_ty (by rfl) T.n_str (by decide +kernel)))) (q_one (q_cmp o_lt (q_v (pv 0)) (q_v (pv 1))))))))) (z_nil))
    (z_cons (s_forR (passes_of rfl) rfl (by rfl) T.n_range (a_cons (q_callB (c_min2 rfl) (by rfl) T.n_min (by decide +kernel) (a_cons (q_callB c_len (by rfl) T.n_len (by decide +kernel) (a_cons (q_v (pv 0)) (a_nil))) (a_cons (q_callB c_len (by rfl) T.n_len (by decide +kernel) (a_cons (q_v (pv 1)) (a_nil))) (a_nil)))) a_nil) (pg_name (i := 2) sc__law_ahead.nd rfl (.inl rfl)) (g_nm) (z_one (s_if (k_cmp (o_ne hr.units) (q_ix (q_v (pv 0)) (q_v (pv 2))) (q_ix (q_v (pv 1)) (q_v (pv 2)))) (z_one (s_ret (q_call (takes_of rfl rfl rfl rfl) R__law_ahead hr (Nat.le_refl _) (by rfl) (a_cons (q_ix (q_v (pv 0)) (q_v (pv 2))) (a_cons (q_ix (q_v (pv 1)) (q_v (pv 2))) (a_nil)))))) (z_nil))))
    (z_one (s_ret (q_cmp o_lt (q_callB c_len (by rfl) T.n_len (by decide +kernel) (a_cons (q_v (pv 0)) (a_nil))) (q_callB c_len (by rfl) T.n_len (by decide +kernel) (a_cons (q_v (pv 1)) (a_nil))))))))))
theorem ok__law_like {f : Addr} {fd : FuncData} (T : Txt mg) (F__law_good_tree : FD P w K mg base cA 64 "_law_good_tree" 1 m__law_good_tree) (F__law_take : FD P w K mg base cA 1 "_law_take" 2 m__law_take) (n : Nat) (R__law_like : FD P w K mg base cA (65 + n) "_law_like" 2 (m__law_like n)) (F : Fun K "_law_like" "_law_like" s__law_like f fd) (mgf : mg "_law_like" = some (.ref f)) (kp : PySem.W.keepIn K (.ref f) = true) (bd : Binds K fd ["tree", "pot"] []) : FD P w K mg base cA (65 + (n + 1)) "_law_like" 2 (m__law_like (n + 1)) :=
  FD.drop (N := 5) (body := b__law_like (m__law_like n)) (fd_mk (body := b__law_like (m__law_like n)) (N := ["tree", "pot", "part", "at", "way"]) (ps := ["tree", "pot"]) (k := 65 + n) F mgf kp bd sc__law_like (fun cdv A outer s H E hr =>
    (z_cons (s_set (ps_set (i := 2) sc__law_like.nd rfl (.inl rfl) (q_call (takes_of rfl rfl rfl rfl) F__law_good_tree hr (by omega) (by rfl) (a_cons (q_v (pv 1)) (a_nil)))))
    (z_cons (s_if ((w_or (k_val (q_isi (n := "str") (by rfl) T.n_isinstance (q_v (pv 0)) (q_ty (by rfl) T.n_str (by decide +kernel)))) (w_or1 (k_cmp (o_eq hr.units) (q_v (pv 0)) (q_tup (a_nil))))).pt) (z_one (s_ret (q_v (pv 2)))) (z_nil))
    (z_cons (s_set (ps_set (i := 3) sc__law_like.nd rfl (.inl rfl) (q_call (takes_of rfl rfl rfl rfl) F__law_take hr (by omega) (by rfl) (a_cons (q_v (pv 1)) (a_cons (q_callB c_len (by rfl) T.n_len (by decide +kernel) (a_cons (q_v (pv 0)) (a_nil))) (a_nil))))))
    (z_cons (s_set (ps_set (i := 4) sc__law_like.nd rfl (.inl rfl) (q_call (takes_of rfl rfl rfl rfl) F__law_take hr (by omega) (by rfl) (a_cons (q_v (pv 1)) (a_cons (q_int) (a_nil))))))
    (z_cons (s_if (k_cmp (o_eq hr.units) (q_v (pv 4)) (q_int)) (z_one (s_ret (q_op o_add (q_slH (q_v (pv 0)) (q_v (pv 3))) (q_slL (q_v (pv 0)) (q_op o_add (q_v (pv 3)) (q_int)))))) (z_nil))
    (z_cons (s_if (k_cmp (o_eq hr.units) (q_v (pv 4)) (q_int)) (z_one (s_ret (q_op o_add (q_op o_add (q_slH (q_v (pv 0)) (q_v (pv 3))) (q_tup (a_cons (q_v (pv 2)) (a_nil)))) (q_slL (q_v (pv 0)) (q_op o_add (q_v (pv 3)) (q_int)))))) (z_nil))
    (z_cons (s_if (k_cmp (o_eq hr.units) (q_v (pv 4)) (q_int)) (z_one (s_ret (q_op o_add (q_v (pv 0)) (q_tup (a_cons (q_v (pv 2)) (a_nil)))))) (z_nil))
    (z_one (s_ret (q_op o_add (q_op o_add (q_slH (q_v (pv 0)) (q_v (pv 3))) (q_tup (a_cons (q_call (takes_of rfl rfl rfl rfl) R__law_like hr (Nat.le_refl _) (by rfl) (a_cons (q_ix (q_v (pv 0)) (q_v (pv 3))) (a_cons (q_v (pv 1)) (a_nil)))) (a_nil)))) (q_slL (q_v (pv 0)) (q_op o_add (q_v (pv 3)) (q_int)))))))))))))))
theorem ok__law_three {f : Addr} {fd : FuncData} (T : Txt mg) (F__law_pot : FD P w K mg base cA 1 "_law_pot" 2 m__law_pot) (F__law_good_tree : FD P w K mg base cA 64 "_law_good_tree" 1 m__law_good_tree) (F__law_take : FD P w K mg base cA 1 "_law_take" 2 m__law_take) (F__law_like : FD P w K mg base cA 125 "_law_like" 2 (m__law_like 60)) (F__law_is_tree : FD P w K mg base cA 63 "_law_is_tree" 1 m__law_is_tree) (F : Fun K "_law_three" "_law_three" s__law_three f fd) (mgf : mg "_law_three" = some (.ref f)) (kp : PySem.W.keepIn K (.ref f) = true) (bd : Binds K fd ["script", "k"] []) : FD P w K mg base cA 126 "_law_three" 2 m__law_three :=
  FD.drop (N := 6) (body := b__law_three) (fd_mk (body := b__law_three) (N := ["script", "k", "pots", "trees", "j", "tree"]) (ps := ["script", "k"]) (k := 125) F mgf kp bd sc__law_three (fun cdv A outer s H E hr =>
    (z_cons (s_setLcG w_rng1 (i := 2) (own := [("j", 4)]) (g := gName 4) (g_nm) (by decide) rfl sc__law_three.nd rfl rfl (sw_true rfl rfl rfl (by decide +kernel)) (i_rng1 (by rfl) T.n_range (q_int)) (blkOk_by (N := ["script", "k", "pots", "trees", "j", "tree"]) (sc := defScope s__law_three) (by decide +kernel)) (fun _ _ _ _ _ => pg_name (i := 4) sc__law_three.nd rfl (.inl rfl)) (fun _ _ _ _ _ => x_nil) (fun _ _ _ _ _ => q_call takes0 F__law_pot hr (by decide) (by rfl) (a_cons (q_ix (q_v (pv 0)) (q_op o_mod (q_op o_add (q_v (pv 1)) (q_v (pv 4))) (q_callB c_len (by rfl) T.n_len (by decide +kernel) (a_cons (q_v (pv 0)) (a_nil))))) (a_cons (q_op o_add (q_int) (q_v (pv 4))) (a_nil)))))
    (z_cons (s_set (ps_set (i := 3) sc__law_three.nd rfl (.inl rfl) (q_new (a_cons (q_call (takes_of rfl rfl rfl rfl) F__law_good_tree hr (by decide) (by rfl) (a_cons (q_ix (q_v (pv 2)) (q_int)) (a_nil))) (a_nil)))))
    (z_cons (s_forG2 (passes_of rfl) rfl (by rfl) T.n_range (q_int) (q_int) (pg_name (i := 4) sc__law_three.nd rfl (.inl rfl)) (g_nm) (z_cons (s_set (ps_set (i := 5) sc__law_three.nd rfl (.inl rfl) (q_call (takes_of rfl rfl rfl rfl) F__law_good_tree hr (by decide) (by rfl) (a_cons (q_ix (q_v (pv 2)) (q_v (pv 4))) (a_nil)))))
    (z_cons (s_if (k_cmp (o_eq hr.units) (q_call (takes_of rfl rfl rfl rfl) F__law_take hr (by decide) (by rfl) (a_cons (q_ix (q_v (pv 2)) (q_v (pv 4))) (a_cons (q_int) (a_nil)))) (q_int)) (z_one (s_set (ps_set (i := 5) sc__law_three.nd rfl (.inl rfl) (q_call (takes_of rfl rfl rfl rfl) F__law_like hr (by decide) (by rfl) (a_cons (q_ix (q_v (pv 3)) (q_op o_sub (q_v (pv 4)) (q_int))) (a_cons (q_ix (q_v (pv 2)) (q_v (pv 4))) (a_nil))))))) (z_nil))
    (z_cons (s_if (k_not (k_val (q_call (takes_of rfl rfl rfl rfl) F__law_is_tree hr (by decide) (by rfl) (a_cons (q_v (pv 5)) (a_nil))))) (z_one (s_set (ps_set (i := 5) sc__law_three.nd rfl (.inl rfl) (q_ix (q_v (pv 3)) (q_int))))) (z_nil))
    (z_one (s_ex (q_app (q_v (pv 3)) (q_v (pv 5)) (fun h1 h2 => pe_bm PySem.F.plainAttrs_list PySem.F.slot_list_append PySem.F.type_list_append mt_append h1 h2))))))))
    (z_one (s_ret (q_v (pv 3)))))))))
theorem ok_law {f : Addr} {fd : FuncData} (T : Txt mg) (F__law_three : FD P w K mg base cA 126 "_law_three" 2 m__law_three) (F_is_ahead : FD P w K mg base cA 62 "is_ahead" 2 m_is_ahead) (F__law_ahead : FD P w K mg base cA 61 "_law_ahead" 2 (m__law_ahead 60)) (F_tree_text : FD P w K mg base cA 61 "tree_text" 1 (m_tree_text 60)) (F : Fun K "law" "law" s_law f fd)
  (hm : ∀ ns : List Int, ns.length ≤ 63 → ∃ S, m_law [.scr (ns.map D.int)] [] = .ok (.bl true) S) : FnOk P w K mg base CX0 127 f fd ["script"] (spLaw K 63) :=
  law_mk (n := 63) (cA := cA) (N := ["script", "cells", "k", "trees", "one", "other", "found", "same", "two", "three"]) (k := 126) (body := b_law) F sc_law (fun cdv A outer s H E hr => (z_cons (s_set (ps_set (i := 1) sc_law.nd rfl (.inl rfl) (q_op o_add (q_callT c_list (by rfl) T.n_list (by decide +kernel) (a_cons (q_slH (q_v (pv 0)) (q_int)) (a_nil))) (q_lst (a_cons (q_callB c_len (by rfl) T.n_len (by decide +kernel) (a_cons (q_v (pv 0)) (a_nil))) (a_nil))))))
    (z_cons (s_forR PassesOwn.never rfl (by rfl) T.n_range (a_cons (q_callB c_len (by rfl) T.n_len (by decide +kernel) (a_cons (q_v (pv 1)) (a_nil))) a_nil) (pg_name (i := 2) sc_law.nd rfl (.inl rfl)) (g_nm) (z_cons (s_set (ps_set (i := 3) sc_law.nd rfl (.inl rfl) (q_call takes0 F__law_three hr (by decide) (by rfl) (a_cons (q_v (pv 1)) (a_cons (q_v (pv 2)) (a_nil))))))
    (z_cons (s_for PassesOwn.never rfl (q_v (pv 3)) (pg_name (i := 4) sc_law.nd rfl (.inl rfl)) (g_nm) (z_one (s_for PassesOwn.never rfl (q_v (pv 3)) (pg_name (i := 5) sc_law.nd rfl (.inl rfl)) (g_nm) (z_cons (s_set (ps_set (i := 6) sc_law.nd rfl (.inl rfl) (q_call takes0 F_is_ahead hr (by decide) (by rfl) (a_cons (q_v (pv 4)) (a_cons (q_v (pv 5)) (a_nil))))))
    (z_cons (s_if ((w_or (k_not (k_val (q_isi (n := "bool") (by rfl) T.n_isinstance (q_v (pv 6)) (q_ty (by rfl) T.n_bool (by decide +kernel))))) (w_or1 (k_cmp (o_ne hr.units) (q_v (pv 6)) (q_call takes0 F__law_ahead hr (by decide) (by rfl) (a_cons (q_v (pv 4)) (a_cons (q_v (pv 5)) (a_nil))))))).pt) (z_one (s_ret (q_bl))) (z_nil))
    (z_cons (s_set (ps_set (i := 7) sc_law.nd rfl (.inl rfl) (q_cmp (o_eq hr.units) (q_call takes0 F_tree_text hr (by decide) (by rfl) (a_cons (q_v (pv 4)) (a_nil))) (q_call takes0 F_tree_text hr (by decide) (by rfl) (a_cons (q_v (pv 5)) (a_nil))))))
    (z_one (s_if ((w_or (k_cmp (o_ne hr.units) (q_v (pv 7)) (q_cmp (o_eq hr.units) (q_v (pv 4)) (q_v (pv 5)))) (w_or1 (k_cmp (o_ne hr.units) (q_cnt (q_lst (a_cons (q_v (pv 6)) (a_cons (q_call takes0 F_is_ahead hr (by decide) (by rfl) (a_cons (q_v (pv 5)) (a_cons (q_v (pv 4)) (a_nil)))) (a_cons (q_v (pv 7)) (a_nil))))) (q_bl) (fun h1 h2 => pe_bm PySem.F.plainAttrs_list PySem.F.slot_list_count PySem.F.type_list_count mt_countV h1 h2)) (q_int)))).pt) (z_one (s_ret (q_bl))) (z_nil)))))))))
    (z_cons (s_asg (g_tup (g_cons (g_nm) (g_cons (g_nm) (g_cons (g_nm) (g_nil))))) (ps_asg (q_v (pv 3)) (pgTL rfl (pgs_cons (pg_name (i := 4) sc_law.nd rfl (.inl rfl)) (pgs_cons (pg_name (i := 8) sc_law.nd rfl (.inl rfl)) (pgs_cons (pg_name (i := 9) sc_law.nd rfl (.inl rfl)) (pgs_nil)))))))
    (z_one (s_if ((w_and (k_val (q_call takes0 F_is_ahead hr (by decide) (by rfl) (a_cons (q_v (pv 4)) (a_cons (q_v (pv 8)) (a_nil))))) (w_and (k_val (q_call takes0 F_is_ahead hr (by decide) (by rfl) (a_cons (q_v (pv 8)) (a_cons (q_v (pv 9)) (a_nil))))) (w_and1 (k_not (k_val (q_call takes0 F_is_ahead hr (by decide) (by rfl) (a_cons (q_v (pv 4)) (a_cons (q_v (pv 9)) (a_nil))))))))).pt) (z_one (s_ret (q_bl))) (z_nil)))))))
    (z_one (s_ret (q_bl)))))) hm
end

end Law

/-! The data layer: rules, step by step, for what came later. -/
namespace DL
open PySem PySem.Spec PyProof.Rows L2
section
variable {Q : QE} {QL : QA} {QT : QB} {X : QX} {P : PO} {d : D} {ds : List D} {b : Bool} {S : Sto} {c : Str} {e : En} {i n : Nat}
variable {a b' c' : ME} {g g' : Sto → D → D → Option D} {h : Sto → D → Option D} {gl : Sto → List D → Option D} {ma mr : MA} {t u : MB} {sa sb : MS} {m : MF} {tg : MTg} {x y : D}
theorem k_m1 (k : OkE (a e S) (fun x S1 => isS x = true ∧ OkE (b' e S1) (fun y S2 => OkE (opt (g S2 x y) S2) Q X) X) X) : OkE (eM1 g a b' e S) Q X := by
  unfold eM1
  rw [OkE_bind]
  refine k.imp fun x S1 ⟨h1, k⟩ => ?_
  rw [if_pos h1, OkE_bind]; exact k
theorem k_m0 (k : OkE (a e S) (fun x S1 => isS x = true ∧ OkE (opt (h S1 x) S1) Q X) X) : OkE (eM0 h a e S) Q X := by
  unfold eM0
  rw [OkE_bind]
  refine k.imp fun x S1 ⟨h1, k⟩ => ?_
  rw [if_pos h1]; exact k
theorem k_cnt (k : OkE (a e S) (fun x S1 => isLv S1 x = true ∧ OkE (b' e S1) (fun y S2 => OkE (opt (gCnt S2 x y) S2) Q X) X) X) : OkE (eCnt a b' e S) Q X := by
  unfold eCnt
  rw [OkE_bind]
  refine k.imp fun x S1 ⟨h1, k⟩ => ?_
  rw [if_pos h1, OkE_bind]; exact k
theorem k_rep {y z w : Str} (h1 : w.length + (w.length + 1) * z.length ≤ 16777216) (k : Q (.str (Txt.replace w y z)) S) : OkE (opt (gRep y z S (.str w)) S) Q X := by
  simp only [gRep]
  rw [if_pos h1]; exact k
theorem strL_map {α : Type} {f : α → Str} : ∀ l : List α, strL (l.map fun z => D.str (f z)) = some (l.map f)
  | [] => rfl
  | z :: l => by rw [List.map_cons, strL, strL_map l]; rfl
theorem k_joinL {w : Str} {ys : List Str} (h1 : strL ds = some ys) (h2 : (ys.map (·.length)).sum + ys.length * w.length ≤ 16777216) (k : Q (.str (Txt.join w ys)) S) : OkE (opt (gJoin S (.str w) (.lst ds)) S) Q X := by
  simp only [gJoin, view, h1]
  rw [if_pos h2]; exact k
theorem k_joinT {w : Str} {ys : List Str} (h1 : strL ds = some ys) (h2 : (ys.map (·.length)).sum + ys.length * w.length ≤ 16777216) (k : Q (.str (Txt.join w ys)) S) : OkE (opt (gJoin S (.str w) (.tup ds)) S) Q X := by
  simp only [gJoin, view, h1]
  rw [if_pos h2]; exact k
theorem k_min2 {i j : Int} (k : Q (.int (if j < i then j else i)) S) : OkE (opt (gMin2 S [.int i, .int j]) S) Q X := k
theorem k_addT {xs ys : List D} (h1 : xs.length + ys.length ≤ 16777216) (k : Q (.tup (xs ++ ys)) S) : OkE (opt (gAdd S (.tup xs) (.tup ys)) S) Q X := by
  simp only [gAdd, view]
  rw [if_pos h1]; exact k
theorem k_addL {xs ys : List D} (h1 : xs.length + ys.length ≤ 16777216) (k : Q (.lst (xs ++ ys)) S) : OkE (opt (gAdd S (.lst xs) (.lst ys)) S) Q X := by
  simp only [gAdd, view, noS]
  refine k_opt (if_pos ⟨⟨h1, ?_⟩, ?_⟩) k <;> first | trivial | rfl
/-- list(script[..]) + [n] -/
theorem k_cells {ns : List Int} {i j : Nat} {n : Int} (h : ns.length ≤ 1000) (k : ∀ cs : List Int, 0 < cs.length → cs.length ≤ ns.length + 1 → Q (.lst (cs.map D.int)) S) : OkE (opt (gAdd S (.lst ((List.drop i (ns.map D.int)).take j)) (.lst [.int n])) S) Q X := by
  have hl : ((ns.drop i).take j).length ≤ ns.length := by simp; omega
  have h1 := k ((ns.drop i).take j ++ [n]) (by simp) (by rw [List.length_append]; simp; omega)
  refine k_addL (by simp; omega) ?_
  rw [show List.take j (List.drop i (ns.map D.int)) ++ [D.int n] = (((ns.drop i).take j) ++ [n]).map D.int by simp [List.map_take, List.map_drop]]
  exact h1
/-- [n] + list(script[..]) -/
theorem k_cells' {ns : List Int} {i j : Nat} {n : Int} (h : ns.length ≤ 1000) (k : ∀ cs : List Int, 0 < cs.length → cs.length ≤ ns.length + 1 → Q (.lst (cs.map D.int)) S) : OkE (opt (gAdd S (.lst [.int n]) (.lst ((List.drop i (ns.map D.int)).take j))) S) Q X := by
  have hl : ((ns.drop i).take j).length ≤ ns.length := by simp; omega
  have h1 := k (n :: (ns.drop i).take j) (by simp) (by rw [List.length_cons]; omega)
  refine k_addL (by simp; omega) ?_
  rw [show [D.int n] ++ List.take j (List.drop i (ns.map D.int)) = (n :: ((ns.drop i).take j)).map D.int by simp [List.map_take, List.map_drop]]
  exact h1
theorem k_slL' {lo hi : Option Int} {xs : List D} (k : Q (.lst ((xs.drop (HT.sIx xs.length 0 lo)).take (HT.sIx xs.length xs.length hi - HT.sIx xs.length 0 lo))) S) : OkE (opt (gSl lo hi S (.lst xs)) S) Q X := k
theorem k_slC {lo hi : Option Int} {xs : List D} (k : Q (.lst ((xs.drop (HT.sIx xs.length 0 lo)).take (HT.sIx xs.length xs.length hi - HT.sIx xs.length 0 lo))) S) : OkE (opt (gSl lo hi S (.scr xs)) S) Q X := k
theorem k_slT {lo hi : Option Int} {xs : List D} (k : Q (.tup ((xs.drop (HT.sIx xs.length 0 lo)).take (HT.sIx xs.length xs.length hi - HT.sIx xs.length 0 lo))) S) : OkE (opt (gSl lo hi S (.tup xs)) S) Q X := k
theorem k_bnd {n : Int} {p : Prop} (h : 0 ≤ n ∧ n < 4611686018427387904) (k : p) : (-(2 ^ 62) ≤ n ∧ n < 2 ^ 62) ∧ p := ⟨⟨by omega, by omega⟩, k⟩
theorem k_ltS {i j : Str} (k : Q (.bl (decide (i.cps.toList < j.cps.toList))) S) : OkE (opt (gLt S (.str i) (.str j)) S) Q X := k
theorem k_eqB {i j : Bool} (k : Q (.bl (decide (i = j))) S) : OkE (opt (gEq S (.bl i) (.bl j)) S) Q X := by rw [gEq_bl]; exact k
theorem k_neB {i j : Bool} (k : Q (.bl (!decide (i = j))) S) : OkE (opt (gNe S (.bl i) (.bl j)) S) Q X := by rw [gNe_bl]; exact k
/-- what holds behind the first one, whichever way it went -/
theorem k_seqI (I : En → Sto → Prop) (k1 : OkS (sa e S) ⟨I, P.rt, P.bk, P.ct, P.ex⟩) (k2 : ∀ e S, I e S → OkS (sb e S) P) : OkS (sSeq sa sb e S) P :=
  k_seq (k1.imp k2 (fun _ _ h => h) (fun _ _ h => h) (fun _ _ h => h) (fun _ _ _ h => h))
theorem ints_of {l : List D} : (∀ d ∈ l, ∃ z : Int, d = .int z) → ∃ cs : List Int, l = cs.map D.int := by
  induction l with
  | nil => intro _; exact ⟨[], rfl⟩
  | cons d l ih =>
    intro h
    obtain ⟨z, rfl⟩ := h d (by simp)
    obtain ⟨cs, rfl⟩ := ih fun d hd => h d (by simp [hd])
    exact ⟨z :: cs, rfl⟩
/-! ### texts, by their signs -/
theorem str_ext {x y : Str} (h : x.cps.toList = y.cps.toList) : x = y := by
  cases x; cases y
  exact congrArg Str.mk (Array.toList_inj.mp h)
theorem app_list (x y : Str) : (x ++ y).cps.toList = x.cps.toList ++ y.cps.toList := by
  show (x.cps ++ y.cps).toList = _
  simp
theorem slen (x : Str) : x.length = x.cps.toList.length := by simp [Str.length]
theorem join_nil (z : Str) : (Txt.join z []).cps.toList = [] := rfl
theorem join_cons (z p : Str) (r : List Str) : (Txt.join z (p :: r)).cps.toList = StrLaws.glueT z.cps.toList (p :: r) := StrLaws.glued_list z p r
theorem repl1 (a : Nat) (z : List Nat) : ∀ x, StrLaws.replL [a] z x = x.flatMap fun c => if c = a then z else [c]
  | [] => StrLaws.replL_nil
  | c :: r => by
    by_cases h : c = a
    · rw [StrLaws.replL_hit (by simp) (by simp [h])]
      simp [repl1 a z r, h]
    · rw [StrLaws.replL_miss (by simp [h])]
      simp [repl1 a z r, h]
theorem rng_at {lo : Int} {n i : Nat} {d : D} (h : (rng lo n)[i]? = some d) : i < n ∧ d = .int (lo + (i : Int)) := by
  have hi : i < (rng lo n).length := (List.getElem?_eq_some_iff.mp h).1
  rw [rng_len] at hi
  refine ⟨hi, ?_⟩
  unfold rng at h
  rw [List.getElem?_map, List.getElem?_range hi] at h
  cases h; rfl
theorem le_maxD {d y : Int} {ns : List Int} (hy : y ∈ ns) : y ≤ maxD d ns := by
  have key : ∀ (r : List Int) (x : Int), x ≤ r.foldl max x ∧ ∀ y ∈ r, y ≤ r.foldl max x := by
    intro r
    induction r with
    | nil => intro x; exact ⟨Int.le_refl _, fun y hy => by cases hy⟩
    | cons z r ih =>
      intro x
      rw [List.foldl_cons]
      obtain ⟨h1, h2⟩ := ih (max x z)
      refine ⟨by omega, fun y hy => ?_⟩
      rcases List.mem_cons.mp hy with rfl | hy
      · omega
      · exact h2 y hy
  cases ns with
  | nil => cases hy
  | cons x r =>
    rcases List.mem_cons.mp hy with rfl | hy
    · exact (key r y).1
    · exact (key r x).2 y hy
end
end DL

namespace Law
open PySem PySem.Spec PyProof.Rows L2 DL
/-- a pot of digits -/
structure Pot (a b : Int) : Prop where
  h1 : 0 ≤ a
  h2 : 0 ≤ b
  h3 : b < 2147483648
theorem take_ok (a b n : Int) (hn : 0 < n) (hn2 : n < 1073741824) (ha : 0 ≤ a) (hb : 0 ≤ b) (hb2 : b < 2147483648) : ∃ d a' b' : Int, m__law_take [.obj 0, .int n] [.lst [.int a, .int b]] = .ok (.int d) [.lst [.int a', .int b']] ∧ 0 ≤ d ∧ d < n ∧ 0 ≤ a' ∧ 0 ≤ b' ∧ b' < 2147483648 := by
  by_cases h : 0 < a
  · refine ⟨a % n, a / n, b, ?_, Int.emod_nonneg _ (by omega), Int.emod_lt_of_pos _ hn, Int.ediv_nonneg ha (by omega), hb, hb2⟩
    simp [m__law_take, fnD_ap, b__law_take, gIx, view, h, gMod_int hn, gFdiv_int hn hn2, putI, ixN]
  · have h1 : -18446744073709551616 < b ∧ b < 18446744073709551616 := by omega
    have h2 := Int.emod_nonneg (b * b + 104729) (show (2147483629 : Int) ≠ 0 by decide)
    have h3 := Int.emod_lt_of_pos (b * b + 104729) (show (0 : Int) < 2147483629 by decide)
    refine ⟨(b * b + 104729) % 2147483629 * 48271 % 2147483647 / 7 % n, a, (b * b + 104729) % 2147483629, ?_, Int.emod_nonneg _ (by omega), Int.emod_lt_of_pos _ hn, ha, h2, by omega⟩
    simp [m__law_take, fnD_ap, b__law_take, gIx, view, h, gMod_int hn, gMod_int, gFdiv_int, putI, ixN, gMul_int (.inl h1), gMul_int]
theorem take_s {S : Sto} {k : Nat} {a b n : Int} {Q : QE} {X : QX} (hk : S[k]? = some (.lst [.int a, .int b])) (p : Pot a b) (hn : 0 < n) (hn2 : n < 1073741824) (h : ∀ d a' b', 0 ≤ d → d < n → Pot a' b' → Q (.int d) (S.set k (.lst [.int a', .int b']))) : OkE (callS m__law_take [.obj k, .int n] S) Q X := by
  obtain ⟨d, a', b', e, h1, h2, h3, h4, h5⟩ := take_ok a b n hn hn2 p.h1 p.h2 p.h3
  refine OkE_callL hk rfl rfl rfl ?_
  simp only [List.map_cons, List.map_nil, mapO, List.idxOf_cons_self]
  rw [e]
  exact ⟨_, rfl, rfl, rfl, h d a' b' h1 h2 ⟨h3, h4, h5⟩⟩
/-- the signs of the law's texts -/
def sgs : List Nat := ("abcdefghijklmnopqrstuvwxyzABCDEFGHIJKLMNOPQRSTUVWXYZ0123456789 !#$&'()*+,-./:;<=>?\x40[]^_`{|}~\"\\" : Str).cps.toList
theorem signs_s {S : Sto} {Q : QE} {X : QX} (h : Q (.str ⟨sgs.toArray⟩) S) : OkE (callS m__law_signs [] S) Q X := by
  refine OkE_call0 rfl ?_
  have e : m__law_signs [] [] = .ok (.str ⟨sgs.toArray⟩) [] := by
    simp [m__law_signs, fnD_ap, b__law_signs, gAdd]
    rfl
  rw [e]
  exact ⟨rfl, rfl, h⟩
/-- all signs are the law's -/
def Sg (t : Str) : Prop := ∀ c ∈ t.cps.toList, c ∈ sgs
structure Txt0 (t : Str) : Prop where
  len : t.length ≤ 700
  sg : Sg t
theorem strOk_app {a b : Str} (h1 : PyData.strOk a = true) (h2 : PyData.strOk b = true) : PyData.strOk (a ++ b) = true := by
  unfold PyData.strOk at h1 h2 ⊢
  show (a.cps ++ b.cps).all _ = true
  rw [Array.all_append, h1, h2]; rfl
theorem strOk_of {a : Str} (h : ∀ c ∈ a.cps.toList, c < 1114112) : PyData.strOk a = true := by
  unfold PyData.strOk
  rw [Array.all_eq_true']
  intro c hc
  exact decide_eq_true (h c (Array.mem_toList_iff.mpr hc))
theorem Sg.ok {t : Str} (h : Sg t) : PyData.strOk t = true := strOk_of fun c hc => by
  have hz : ∀ z ∈ sgs, z < 1114112 := by decide +kernel
  exact hz c (h c hc)
theorem Sg.app {a b : Str} (h1 : Sg a) (h2 : Sg b) : Sg (a ++ b) := fun c hc => by
  have e : (a ++ b).cps.toList = a.cps.toList ++ b.cps.toList := by
    show (a.cps ++ b.cps).toList = _
    simp
  rw [e] at hc
  exact (List.mem_append.mp hc).elim (h1 c) (h2 c)
theorem Sg.one {j : Nat} (h : j ∈ sgs) : Sg ⟨#[j]⟩ := fun c hc => by
  rw [List.mem_singleton.mp hc]; exact h
theorem Sg.srep {a : Str} {n : Nat} (h : Sg a) : Sg (srep a n) := fun c hc => by
  simp only [DL.srep, List.mem_flatten, List.mem_replicate] at hc
  obtain ⟨l, ⟨_, rfl⟩, hc⟩ := hc
  exact h c hc
theorem strOk_srep {a : Str} {n : Nat} (h : PyData.strOk a = true) : PyData.strOk (srep a n) = true := strOk_of fun c hc => by
  unfold PyData.strOk at h
  rw [Array.all_eq_true'] at h
  simp only [srep, List.mem_flatten, List.mem_replicate] at hc
  obtain ⟨l, ⟨_, rfl⟩, hc⟩ := hc
  exact of_decide_eq_true (h c (Array.mem_toList_iff.mp hc))
theorem sgs_len : (Str.mk sgs.toArray).length = 94 := by decide
theorem sgs_le : (Str.mk sgs.toArray).length ≤ 16777216 := by rw [sgs_len]; decide
theorem text_s {S : Sto} {k : Nat} {a b : Int} {Q : QE} {X : QX} (hk : S[k]? = some (.lst [.int a, .int b])) (p : Pot a b) (h : ∀ t a' b', Txt0 t → Pot a' b' → Q (.str t) (S.set k (.lst [.int a', .int b']))) : OkE (callS m__law_text [.obj k] S) Q X := by
  refine OkE_callL hk rfl rfl rfl ?_
  simp only [List.map_cons, List.map_nil, mapO, List.idxOf_cons_self]
  refine k_fnD ?_
  unfold b__law_text
  (repeat (first | (with_reducible first | refine k_seq ?_ | refine k_set ?_ | refine k_ret ?_ | refine k_c ?_ | refine k_call ?_ | refine k_aC ?_ | refine k_aN ?_ | refine k_2 ?_ | refine k_1 ?_ | refine k_tOf ?_ | refine k_sIf ?_ | refine k_B ?_ | refine k_tup ?_ | refine k_lst ?_ | refine k_new ?_ | refine k_addI ?_ | refine k_subI ?_ | refine k_eqI ?_ | refine k_neI ?_ | refine k_ltI ?_ | refine k_leI ?_ | refine k_gtI ?_ | refine k_geI ?_ | refine k_eqS ?_ | refine k_neS ?_ | refine k_for ?_ | refine k_forR ?_ | refine k_forG ?_ | refine k_pass ?_ | refine k_ex ?_ | refine k_retN ?_ | refine k_brk ?_ | refine k_cont ?_ | refine k_asg ?_ | refine k_setI ?_ | refine k_sl2 ?_ | refine k_slL ?_ | refine k_slH ?_ | refine k_app ?_ | refine k_ext ?_ | refine k_bk ?_ | refine k_no ?_ | refine k_tNo ?_ | refine k_tYs ?_ | refine k_if ?_ | refine k_gc ?_ | refine k_3B ?_ | refine k_lenT ?_ | refine k_lenL ?_ | refine k_lenC ?_ | refine k_tupT ?_ | refine k_tupL ?_ | refine k_lstL ?_ | refine k_lstC ?_ | refine k_lstT ?_ | refine k_ltS ?_ | refine k_m1 ?_ | refine k_m0 ?_ | refine k_cnt ?_ | refine k_min2 ?_ | refine k_eqB ?_ | refine k_neB ?_ | refine k_slT ?_ | refine k_slL' ?_ | refine k_slC ?_) | ((with_reducible apply k_v); rfl) | ((with_reducible refine k_bnd ?_ ?_); (first | omega | (simp; omega) | skip)) | ((with_reducible refine And.intro ?_ ?_); (first | rfl | exact Nat.le_of_ble_eq_true rfl | omega | (simp; done))) | ((with_reducible apply k_exe); rfl) | ((with_reducible first | apply k_condT | apply k_aug | apply k_lenO | apply k_tupO | apply k_isi | apply k_is | apply k_isn | apply k_ixT | apply k_ixL); rfl) | ((with_reducible apply k_condF); rfl) | ((with_reducible first | apply k_ixO | apply k_putI); rfl; rfl) | ((with_reducible first | apply k_lenS | apply k_mod | apply k_addS | apply k_mulI | apply k_addT | apply k_rep); (first | omega | (simp; omega) | (with_reducible assumption) | decide))))
  refine signs_s ?_
  (repeat (first | (with_reducible first | refine k_seq ?_ | refine k_set ?_ | refine k_ret ?_ | refine k_c ?_ | refine k_call ?_ | refine k_aC ?_ | refine k_aN ?_ | refine k_2 ?_ | refine k_1 ?_ | refine k_tOf ?_ | refine k_sIf ?_ | refine k_B ?_ | refine k_tup ?_ | refine k_lst ?_ | refine k_new ?_ | refine k_addI ?_ | refine k_subI ?_ | refine k_eqI ?_ | refine k_neI ?_ | refine k_ltI ?_ | refine k_leI ?_ | refine k_gtI ?_ | refine k_geI ?_ | refine k_eqS ?_ | refine k_neS ?_ | refine k_for ?_ | refine k_forR ?_ | refine k_forG ?_ | refine k_pass ?_ | refine k_ex ?_ | refine k_retN ?_ | refine k_brk ?_ | refine k_cont ?_ | refine k_asg ?_ | refine k_setI ?_ | refine k_sl2 ?_ | refine k_slL ?_ | refine k_slH ?_ | refine k_app ?_ | refine k_ext ?_ | refine k_bk ?_ | refine k_no ?_ | refine k_tNo ?_ | refine k_tYs ?_ | refine k_if ?_ | refine k_gc ?_ | refine k_3B ?_ | refine k_lenT ?_ | refine k_lenL ?_ | refine k_lenC ?_ | refine k_tupT ?_ | refine k_tupL ?_ | refine k_lstL ?_ | refine k_lstC ?_ | refine k_lstT ?_ | refine k_ltS ?_ | refine k_m1 ?_ | refine k_m0 ?_ | refine k_cnt ?_ | refine k_min2 ?_ | refine k_eqB ?_ | refine k_neB ?_ | refine k_slT ?_ | refine k_slL' ?_ | refine k_slC ?_) | ((with_reducible apply k_v); rfl) | ((with_reducible refine k_bnd ?_ ?_); (first | omega | (simp; omega) | skip)) | ((with_reducible refine And.intro ?_ ?_); (first | rfl | exact Nat.le_of_ble_eq_true rfl | omega | (simp; done))) | ((with_reducible apply k_exe); rfl) | ((with_reducible first | apply k_condT | apply k_aug | apply k_lenO | apply k_tupO | apply k_isi | apply k_is | apply k_isn | apply k_ixT | apply k_ixL); rfl) | ((with_reducible apply k_condF); rfl) | ((with_reducible first | apply k_ixO | apply k_putI); rfl; rfl) | ((with_reducible first | apply k_lenS | apply k_mod | apply k_addS | apply k_mulI | apply k_addT | apply k_rep); (first | omega | (simp; omega) | (with_reducible assumption) | decide))))
  refine take_s rfl p (by decide) (by decide) fun d1 a1 b1 l1 u1 p1 => ?_
  (repeat (first | (with_reducible first | refine k_seq ?_ | refine k_set ?_ | refine k_ret ?_ | refine k_c ?_ | refine k_call ?_ | refine k_aC ?_ | refine k_aN ?_ | refine k_2 ?_ | refine k_1 ?_ | refine k_tOf ?_ | refine k_sIf ?_ | refine k_B ?_ | refine k_tup ?_ | refine k_lst ?_ | refine k_new ?_ | refine k_addI ?_ | refine k_subI ?_ | refine k_eqI ?_ | refine k_neI ?_ | refine k_ltI ?_ | refine k_leI ?_ | refine k_gtI ?_ | refine k_geI ?_ | refine k_eqS ?_ | refine k_neS ?_ | refine k_for ?_ | refine k_forR ?_ | refine k_forG ?_ | refine k_pass ?_ | refine k_ex ?_ | refine k_retN ?_ | refine k_brk ?_ | refine k_cont ?_ | refine k_asg ?_ | refine k_setI ?_ | refine k_sl2 ?_ | refine k_slL ?_ | refine k_slH ?_ | refine k_app ?_ | refine k_ext ?_ | refine k_bk ?_ | refine k_no ?_ | refine k_tNo ?_ | refine k_tYs ?_ | refine k_if ?_ | refine k_gc ?_ | refine k_3B ?_ | refine k_lenT ?_ | refine k_lenL ?_ | refine k_lenC ?_ | refine k_tupT ?_ | refine k_tupL ?_ | refine k_lstL ?_ | refine k_lstC ?_ | refine k_lstT ?_ | refine k_ltS ?_ | refine k_m1 ?_ | refine k_m0 ?_ | refine k_cnt ?_ | refine k_min2 ?_ | refine k_eqB ?_ | refine k_neB ?_ | refine k_slT ?_ | refine k_slL' ?_ | refine k_slC ?_) | ((with_reducible apply k_v); rfl) | ((with_reducible refine k_bnd ?_ ?_); (first | omega | (simp; omega) | skip)) | ((with_reducible refine And.intro ?_ ?_); (first | rfl | exact Nat.le_of_ble_eq_true rfl | omega | (simp; done))) | ((with_reducible apply k_exe); rfl) | ((with_reducible first | apply k_condT | apply k_aug | apply k_lenO | apply k_tupO | apply k_isi | apply k_is | apply k_isn | apply k_ixT | apply k_ixL); rfl) | ((with_reducible apply k_condF); rfl) | ((with_reducible first | apply k_ixO | apply k_putI); rfl; rfl) | ((with_reducible first | apply k_lenS | apply k_mod | apply k_addS | apply k_mulI | apply k_addT | apply k_rep); (first | omega | (simp; omega) | (with_reducible assumption) | decide))))
  refine OkS_for (fun i e S => ∃ t x a b, e = [some (.obj 0), some (.str ⟨sgs.toArray⟩), some (.str t), x] ∧ S = [.lst [.int a, .int b]] ∧ Pot a b ∧ t.length ≤ i ∧ Sg t) (k := 0) ⟨"", none, a1, b1, rfl, rfl, p1, by decide, fun c hc => by cases hc⟩ ?_ ?_
  · rintro i d _ _ hd ⟨t, x, a, b, rfl, rfl, p, ht, hok⟩
    have hi : i < (rng 0 d1.toNat).length := (List.getElem?_eq_some_iff.mp hd).1
    rw [rng_len] at hi
    have hs := sgs_le
    refine ⟨True.intro, _, rfl, ?_⟩
    (repeat (first | (with_reducible first | refine k_seq ?_ | refine k_set ?_ | refine k_ret ?_ | refine k_c ?_ | refine k_call ?_ | refine k_aC ?_ | refine k_aN ?_ | refine k_2 ?_ | refine k_1 ?_ | refine k_tOf ?_ | refine k_sIf ?_ | refine k_B ?_ | refine k_tup ?_ | refine k_lst ?_ | refine k_new ?_ | refine k_addI ?_ | refine k_subI ?_ | refine k_eqI ?_ | refine k_neI ?_ | refine k_ltI ?_ | refine k_leI ?_ | refine k_gtI ?_ | refine k_geI ?_ | refine k_eqS ?_ | refine k_neS ?_ | refine k_for ?_ | refine k_forR ?_ | refine k_forG ?_ | refine k_pass ?_ | refine k_ex ?_ | refine k_retN ?_ | refine k_brk ?_ | refine k_cont ?_ | refine k_asg ?_ | refine k_setI ?_ | refine k_sl2 ?_ | refine k_slL ?_ | refine k_slH ?_ | refine k_app ?_ | refine k_ext ?_ | refine k_bk ?_ | refine k_no ?_ | refine k_tNo ?_ | refine k_tYs ?_ | refine k_if ?_ | refine k_gc ?_ | refine k_3B ?_ | refine k_lenT ?_ | refine k_lenL ?_ | refine k_lenC ?_ | refine k_tupT ?_ | refine k_tupL ?_ | refine k_lstL ?_ | refine k_lstC ?_ | refine k_lstT ?_ | refine k_ltS ?_ | refine k_m1 ?_ | refine k_m0 ?_ | refine k_cnt ?_ | refine k_min2 ?_ | refine k_eqB ?_ | refine k_neB ?_ | refine k_slT ?_ | refine k_slL' ?_ | refine k_slC ?_) | ((with_reducible apply k_v); rfl) | ((with_reducible refine k_bnd ?_ ?_); (first | omega | (simp; omega) | skip)) | ((with_reducible refine And.intro ?_ ?_); (first | rfl | exact Nat.le_of_ble_eq_true rfl | omega | (simp; done))) | ((with_reducible apply k_exe); rfl) | ((with_reducible first | apply k_condT | apply k_aug | apply k_lenO | apply k_tupO | apply k_isi | apply k_is | apply k_isn | apply k_ixT | apply k_ixL); rfl) | ((with_reducible apply k_condF); rfl) | ((with_reducible first | apply k_ixO | apply k_putI); rfl; rfl) | ((with_reducible first | apply k_lenS | apply k_mod | apply k_addS | apply k_mulI | apply k_addT | apply k_rep); (first | omega | (simp; omega) | (with_reducible assumption) | decide))))
    rw [sgs_len]
    refine take_s rfl p (by decide) (by decide) fun d2 a2 b2 l2 u2 p2 => ?_
    obtain ⟨j, hj, hm⟩ := at_lt (xs := sgs) l2 (by rw [show sgs.length = 94 from by decide]; omega)
    refine k_ixS sgs_le (by rw [← hj]) ?_
    have : (Str.mk #[j]).length = 1 := sign_len j
    (repeat (first | (with_reducible first | refine k_seq ?_ | refine k_set ?_ | refine k_ret ?_ | refine k_c ?_ | refine k_call ?_ | refine k_aC ?_ | refine k_aN ?_ | refine k_2 ?_ | refine k_1 ?_ | refine k_tOf ?_ | refine k_sIf ?_ | refine k_B ?_ | refine k_tup ?_ | refine k_lst ?_ | refine k_new ?_ | refine k_addI ?_ | refine k_subI ?_ | refine k_eqI ?_ | refine k_neI ?_ | refine k_ltI ?_ | refine k_leI ?_ | refine k_gtI ?_ | refine k_geI ?_ | refine k_eqS ?_ | refine k_neS ?_ | refine k_for ?_ | refine k_forR ?_ | refine k_forG ?_ | refine k_pass ?_ | refine k_ex ?_ | refine k_retN ?_ | refine k_brk ?_ | refine k_cont ?_ | refine k_asg ?_ | refine k_setI ?_ | refine k_sl2 ?_ | refine k_slL ?_ | refine k_slH ?_ | refine k_app ?_ | refine k_ext ?_ | refine k_bk ?_ | refine k_no ?_ | refine k_tNo ?_ | refine k_tYs ?_ | refine k_if ?_ | refine k_gc ?_ | refine k_3B ?_ | refine k_lenT ?_ | refine k_lenL ?_ | refine k_lenC ?_ | refine k_tupT ?_ | refine k_tupL ?_ | refine k_lstL ?_ | refine k_lstC ?_ | refine k_lstT ?_ | refine k_ltS ?_ | refine k_m1 ?_ | refine k_m0 ?_ | refine k_cnt ?_ | refine k_min2 ?_ | refine k_eqB ?_ | refine k_neB ?_ | refine k_slT ?_ | refine k_slL' ?_ | refine k_slC ?_) | ((with_reducible apply k_v); rfl) | ((with_reducible refine k_bnd ?_ ?_); (first | omega | (simp; omega) | skip)) | ((with_reducible refine And.intro ?_ ?_); (first | rfl | exact Nat.le_of_ble_eq_true rfl | omega | (simp; done))) | ((with_reducible apply k_exe); rfl) | ((with_reducible first | apply k_condT | apply k_aug | apply k_lenO | apply k_tupO | apply k_isi | apply k_is | apply k_isn | apply k_ixT | apply k_ixL); rfl) | ((with_reducible apply k_condF); rfl) | ((with_reducible first | apply k_ixO | apply k_putI); rfl; rfl) | ((with_reducible first | apply k_lenS | apply k_mod | apply k_addS | apply k_mulI | apply k_addT | apply k_rep); (first | omega | (simp; omega) | (with_reducible assumption) | decide))))
    exact ⟨_, _, _, _, rfl, rfl, p2, by rw [app_len]; omega, hok.app (.one hm)⟩
  · rintro _ _ ⟨t, x, a, b, rfl, rfl, p, ht, hok⟩
    rw [rng_len] at ht
    refine ⟨True.intro, ?_⟩
    (repeat (first | (with_reducible first | refine k_seq ?_ | refine k_set ?_ | refine k_ret ?_ | refine k_c ?_ | refine k_call ?_ | refine k_aC ?_ | refine k_aN ?_ | refine k_2 ?_ | refine k_1 ?_ | refine k_tOf ?_ | refine k_sIf ?_ | refine k_B ?_ | refine k_tup ?_ | refine k_lst ?_ | refine k_new ?_ | refine k_addI ?_ | refine k_subI ?_ | refine k_eqI ?_ | refine k_neI ?_ | refine k_ltI ?_ | refine k_leI ?_ | refine k_gtI ?_ | refine k_geI ?_ | refine k_eqS ?_ | refine k_neS ?_ | refine k_for ?_ | refine k_forR ?_ | refine k_forG ?_ | refine k_pass ?_ | refine k_ex ?_ | refine k_retN ?_ | refine k_brk ?_ | refine k_cont ?_ | refine k_asg ?_ | refine k_setI ?_ | refine k_sl2 ?_ | refine k_slL ?_ | refine k_slH ?_ | refine k_app ?_ | refine k_ext ?_ | refine k_bk ?_ | refine k_no ?_ | refine k_tNo ?_ | refine k_tYs ?_ | refine k_if ?_ | refine k_gc ?_ | refine k_3B ?_ | refine k_lenT ?_ | refine k_lenL ?_ | refine k_lenC ?_ | refine k_tupT ?_ | refine k_tupL ?_ | refine k_lstL ?_ | refine k_lstC ?_ | refine k_lstT ?_ | refine k_ltS ?_ | refine k_m1 ?_ | refine k_m0 ?_ | refine k_cnt ?_ | refine k_min2 ?_ | refine k_eqB ?_ | refine k_neB ?_ | refine k_slT ?_ | refine k_slL' ?_ | refine k_slC ?_) | ((with_reducible apply k_v); rfl) | ((with_reducible refine k_bnd ?_ ?_); (first | omega | (simp; omega) | skip)) | ((with_reducible refine And.intro ?_ ?_); (first | rfl | exact Nat.le_of_ble_eq_true rfl | omega | (simp; done))) | ((with_reducible apply k_exe); rfl) | ((with_reducible first | apply k_condT | apply k_aug | apply k_lenO | apply k_tupO | apply k_isi | apply k_is | apply k_isn | apply k_ixT | apply k_ixL); rfl) | ((with_reducible apply k_condF); rfl) | ((with_reducible first | apply k_ixO | apply k_putI); rfl; rfl) | ((with_reducible first | apply k_lenS | apply k_mod | apply k_addS | apply k_mulI | apply k_addT | apply k_rep); (first | omega | (simp; omega) | (with_reducible assumption) | decide))))
    refine take_s rfl p (by decide) (by decide) fun d2 a2 b2 l2 u2 p2 => ?_
    (repeat (first | (with_reducible first | refine k_seq ?_ | refine k_set ?_ | refine k_ret ?_ | refine k_c ?_ | refine k_call ?_ | refine k_aC ?_ | refine k_aN ?_ | refine k_2 ?_ | refine k_1 ?_ | refine k_tOf ?_ | refine k_sIf ?_ | refine k_B ?_ | refine k_tup ?_ | refine k_lst ?_ | refine k_new ?_ | refine k_addI ?_ | refine k_subI ?_ | refine k_eqI ?_ | refine k_neI ?_ | refine k_ltI ?_ | refine k_leI ?_ | refine k_gtI ?_ | refine k_geI ?_ | refine k_eqS ?_ | refine k_neS ?_ | refine k_for ?_ | refine k_forR ?_ | refine k_forG ?_ | refine k_pass ?_ | refine k_ex ?_ | refine k_retN ?_ | refine k_brk ?_ | refine k_cont ?_ | refine k_asg ?_ | refine k_setI ?_ | refine k_sl2 ?_ | refine k_slL ?_ | refine k_slH ?_ | refine k_app ?_ | refine k_ext ?_ | refine k_bk ?_ | refine k_no ?_ | refine k_tNo ?_ | refine k_tYs ?_ | refine k_if ?_ | refine k_gc ?_ | refine k_3B ?_ | refine k_lenT ?_ | refine k_lenL ?_ | refine k_lenC ?_ | refine k_tupT ?_ | refine k_tupL ?_ | refine k_lstL ?_ | refine k_lstC ?_ | refine k_lstT ?_ | refine k_ltS ?_ | refine k_m1 ?_ | refine k_m0 ?_ | refine k_cnt ?_ | refine k_min2 ?_ | refine k_eqB ?_ | refine k_neB ?_ | refine k_slT ?_ | refine k_slL' ?_ | refine k_slC ?_) | ((with_reducible apply k_v); rfl) | ((with_reducible refine k_bnd ?_ ?_); (first | omega | (simp; omega) | skip)) | ((with_reducible refine And.intro ?_ ?_); (first | rfl | exact Nat.le_of_ble_eq_true rfl | omega | (simp; done))) | ((with_reducible apply k_exe); rfl) | ((with_reducible first | apply k_condT | apply k_aug | apply k_lenO | apply k_tupO | apply k_isi | apply k_is | apply k_isn | apply k_ixT | apply k_ixL); rfl) | ((with_reducible apply k_condF); rfl) | ((with_reducible first | apply k_ixO | apply k_putI); rfl; rfl) | ((with_reducible first | apply k_lenS | apply k_mod | apply k_addS | apply k_mulI | apply k_addT | apply k_rep); (first | omega | (simp; omega) | (with_reducible assumption) | decide))))
    refine ⟨fun h7 => ?_, fun h7 => ?_⟩
    · (repeat (first | (with_reducible first | refine k_seq ?_ | refine k_set ?_ | refine k_ret ?_ | refine k_c ?_ | refine k_call ?_ | refine k_aC ?_ | refine k_aN ?_ | refine k_2 ?_ | refine k_1 ?_ | refine k_tOf ?_ | refine k_sIf ?_ | refine k_B ?_ | refine k_tup ?_ | refine k_lst ?_ | refine k_new ?_ | refine k_addI ?_ | refine k_subI ?_ | refine k_eqI ?_ | refine k_neI ?_ | refine k_ltI ?_ | refine k_leI ?_ | refine k_gtI ?_ | refine k_geI ?_ | refine k_eqS ?_ | refine k_neS ?_ | refine k_for ?_ | refine k_forR ?_ | refine k_forG ?_ | refine k_pass ?_ | refine k_ex ?_ | refine k_retN ?_ | refine k_brk ?_ | refine k_cont ?_ | refine k_asg ?_ | refine k_setI ?_ | refine k_sl2 ?_ | refine k_slL ?_ | refine k_slH ?_ | refine k_app ?_ | refine k_ext ?_ | refine k_bk ?_ | refine k_no ?_ | refine k_tNo ?_ | refine k_tYs ?_ | refine k_if ?_ | refine k_gc ?_ | refine k_3B ?_ | refine k_lenT ?_ | refine k_lenL ?_ | refine k_lenC ?_ | refine k_tupT ?_ | refine k_tupL ?_ | refine k_lstL ?_ | refine k_lstC ?_ | refine k_lstT ?_ | refine k_ltS ?_ | refine k_m1 ?_ | refine k_m0 ?_ | refine k_cnt ?_ | refine k_min2 ?_ | refine k_eqB ?_ | refine k_neB ?_ | refine k_slT ?_ | refine k_slL' ?_ | refine k_slC ?_) | ((with_reducible apply k_v); rfl) | ((with_reducible refine k_bnd ?_ ?_); (first | omega | (simp; omega) | skip)) | ((with_reducible refine And.intro ?_ ?_); (first | rfl | exact Nat.le_of_ble_eq_true rfl | omega | (simp; done))) | ((with_reducible apply k_exe); rfl) | ((with_reducible first | apply k_condT | apply k_aug | apply k_lenO | apply k_tupO | apply k_isi | apply k_is | apply k_isn | apply k_ixT | apply k_ixL); rfl) | ((with_reducible apply k_condF); rfl) | ((with_reducible first | apply k_ixO | apply k_putI); rfl; rfl) | ((with_reducible first | apply k_lenS | apply k_mod | apply k_addS | apply k_mulI | apply k_addT | apply k_rep); (first | omega | (simp; omega) | (with_reducible assumption) | decide))))
      refine take_s rfl p2 (by decide) (by decide) fun d3 a3 b3 l3 u3 p3 => ?_
      (repeat (first | (with_reducible first | refine k_seq ?_ | refine k_set ?_ | refine k_ret ?_ | refine k_c ?_ | refine k_call ?_ | refine k_aC ?_ | refine k_aN ?_ | refine k_2 ?_ | refine k_1 ?_ | refine k_tOf ?_ | refine k_sIf ?_ | refine k_B ?_ | refine k_tup ?_ | refine k_lst ?_ | refine k_new ?_ | refine k_addI ?_ | refine k_subI ?_ | refine k_eqI ?_ | refine k_neI ?_ | refine k_ltI ?_ | refine k_leI ?_ | refine k_gtI ?_ | refine k_geI ?_ | refine k_eqS ?_ | refine k_neS ?_ | refine k_for ?_ | refine k_forR ?_ | refine k_forG ?_ | refine k_pass ?_ | refine k_ex ?_ | refine k_retN ?_ | refine k_brk ?_ | refine k_cont ?_ | refine k_asg ?_ | refine k_setI ?_ | refine k_sl2 ?_ | refine k_slL ?_ | refine k_slH ?_ | refine k_app ?_ | refine k_ext ?_ | refine k_bk ?_ | refine k_no ?_ | refine k_tNo ?_ | refine k_tYs ?_ | refine k_if ?_ | refine k_gc ?_ | refine k_3B ?_ | refine k_lenT ?_ | refine k_lenL ?_ | refine k_lenC ?_ | refine k_tupT ?_ | refine k_tupL ?_ | refine k_lstL ?_ | refine k_lstC ?_ | refine k_lstT ?_ | refine k_ltS ?_ | refine k_m1 ?_ | refine k_m0 ?_ | refine k_cnt ?_ | refine k_min2 ?_ | refine k_eqB ?_ | refine k_neB ?_ | refine k_slT ?_ | refine k_slL' ?_ | refine k_slC ?_) | ((with_reducible apply k_v); rfl) | ((with_reducible refine k_bnd ?_ ?_); (first | omega | (simp; omega) | skip)) | ((with_reducible refine And.intro ?_ ?_); (first | rfl | exact Nat.le_of_ble_eq_true rfl | omega | (simp; done))) | ((with_reducible apply k_exe); rfl) | ((with_reducible first | apply k_condT | apply k_aug | apply k_lenO | apply k_tupO | apply k_isi | apply k_is | apply k_isn | apply k_ixT | apply k_ixL); rfl) | ((with_reducible apply k_condF); rfl) | ((with_reducible first | apply k_ixO | apply k_putI); rfl; rfl) | ((with_reducible first | apply k_lenS | apply k_mod | apply k_addS | apply k_mulI | apply k_addT | apply k_rep); (first | omega | (simp; omega) | (with_reducible assumption) | decide))))
      have hz : (srep "z" (298 + d3 - (t.length : Int)).toNat).length = (298 + d3 - (t.length : Int)).toNat := by rw [srep_length, show (Str.ofString "z").length = 1 from by decide, Nat.mul_one]
      refine k_opt (gMul_str ⟨by omega, by omega, ?_⟩) ?_
      · show _ * 1 ≤ _
        omega
      (repeat (first | (with_reducible first | refine k_seq ?_ | refine k_set ?_ | refine k_ret ?_ | refine k_c ?_ | refine k_call ?_ | refine k_aC ?_ | refine k_aN ?_ | refine k_2 ?_ | refine k_1 ?_ | refine k_tOf ?_ | refine k_sIf ?_ | refine k_B ?_ | refine k_tup ?_ | refine k_lst ?_ | refine k_new ?_ | refine k_addI ?_ | refine k_subI ?_ | refine k_eqI ?_ | refine k_neI ?_ | refine k_ltI ?_ | refine k_leI ?_ | refine k_gtI ?_ | refine k_geI ?_ | refine k_eqS ?_ | refine k_neS ?_ | refine k_for ?_ | refine k_forR ?_ | refine k_forG ?_ | refine k_pass ?_ | refine k_ex ?_ | refine k_retN ?_ | refine k_brk ?_ | refine k_cont ?_ | refine k_asg ?_ | refine k_setI ?_ | refine k_sl2 ?_ | refine k_slL ?_ | refine k_slH ?_ | refine k_app ?_ | refine k_ext ?_ | refine k_bk ?_ | refine k_no ?_ | refine k_tNo ?_ | refine k_tYs ?_ | refine k_if ?_ | refine k_gc ?_ | refine k_3B ?_ | refine k_lenT ?_ | refine k_lenL ?_ | refine k_lenC ?_ | refine k_tupT ?_ | refine k_tupL ?_ | refine k_lstL ?_ | refine k_lstC ?_ | refine k_lstT ?_ | refine k_ltS ?_ | refine k_m1 ?_ | refine k_m0 ?_ | refine k_cnt ?_ | refine k_min2 ?_ | refine k_eqB ?_ | refine k_neB ?_ | refine k_slT ?_ | refine k_slL' ?_ | refine k_slC ?_) | ((with_reducible apply k_v); rfl) | ((with_reducible refine k_bnd ?_ ?_); (first | omega | (simp; omega) | skip)) | ((with_reducible refine And.intro ?_ ?_); (first | rfl | exact Nat.le_of_ble_eq_true rfl | omega | (simp; done))) | ((with_reducible apply k_exe); rfl) | ((with_reducible first | apply k_condT | apply k_aug | apply k_lenO | apply k_tupO | apply k_isi | apply k_is | apply k_isn | apply k_ixT | apply k_ixL); rfl) | ((with_reducible apply k_condF); rfl) | ((with_reducible first | apply k_ixO | apply k_putI); rfl; rfl) | ((with_reducible first | apply k_lenS | apply k_mod | apply k_addS | apply k_mulI | apply k_addT | apply k_rep); (first | omega | (simp; omega) | (with_reducible assumption) | decide))))
      exact ⟨⟨rfl, rfl⟩, _, rfl, rfl, rfl, h _ _ _ ⟨by rw [app_len]; omega, hok.app (.srep (by unfold Sg; decide +kernel))⟩ p3⟩
    · (repeat (first | (with_reducible first | refine k_seq ?_ | refine k_set ?_ | refine k_ret ?_ | refine k_c ?_ | refine k_call ?_ | refine k_aC ?_ | refine k_aN ?_ | refine k_2 ?_ | refine k_1 ?_ | refine k_tOf ?_ | refine k_sIf ?_ | refine k_B ?_ | refine k_tup ?_ | refine k_lst ?_ | refine k_new ?_ | refine k_addI ?_ | refine k_subI ?_ | refine k_eqI ?_ | refine k_neI ?_ | refine k_ltI ?_ | refine k_leI ?_ | refine k_gtI ?_ | refine k_geI ?_ | refine k_eqS ?_ | refine k_neS ?_ | refine k_for ?_ | refine k_forR ?_ | refine k_forG ?_ | refine k_pass ?_ | refine k_ex ?_ | refine k_retN ?_ | refine k_brk ?_ | refine k_cont ?_ | refine k_asg ?_ | refine k_setI ?_ | refine k_sl2 ?_ | refine k_slL ?_ | refine k_slH ?_ | refine k_app ?_ | refine k_ext ?_ | refine k_bk ?_ | refine k_no ?_ | refine k_tNo ?_ | refine k_tYs ?_ | refine k_if ?_ | refine k_gc ?_ | refine k_3B ?_ | refine k_lenT ?_ | refine k_lenL ?_ | refine k_lenC ?_ | refine k_tupT ?_ | refine k_tupL ?_ | refine k_lstL ?_ | refine k_lstC ?_ | refine k_lstT ?_ | refine k_ltS ?_ | refine k_m1 ?_ | refine k_m0 ?_ | refine k_cnt ?_ | refine k_min2 ?_ | refine k_eqB ?_ | refine k_neB ?_ | refine k_slT ?_ | refine k_slL' ?_ | refine k_slC ?_) | ((with_reducible apply k_v); rfl) | ((with_reducible refine k_bnd ?_ ?_); (first | omega | (simp; omega) | skip)) | ((with_reducible refine And.intro ?_ ?_); (first | rfl | exact Nat.le_of_ble_eq_true rfl | omega | (simp; done))) | ((with_reducible apply k_exe); rfl) | ((with_reducible first | apply k_condT | apply k_aug | apply k_lenO | apply k_tupO | apply k_isi | apply k_is | apply k_isn | apply k_ixT | apply k_ixL); rfl) | ((with_reducible apply k_condF); rfl) | ((with_reducible first | apply k_ixO | apply k_putI); rfl; rfl) | ((with_reducible first | apply k_lenS | apply k_mod | apply k_addS | apply k_mulI | apply k_addT | apply k_rep); (first | omega | (simp; omega) | (with_reducible assumption) | decide))))
      exact ⟨⟨rfl, rfl⟩, _, rfl, rfl, rfl, h _ _ _ ⟨by omega, hok⟩ p2⟩

/-! ### values -/
def wf : Nat → D → Prop
  | _, .str x => x.length ≤ 1000
  | n + 1, .tup ds => ds.length ≤ 1000 ∧ ∀ d ∈ ds, wf n d
  | 0, .tup _ => False
  | _, .obj _ => False
  | _, .scr _ => False
  | _, .lst ds => cls ds = true
  | _, .dct _ ds => cls ds = true
  | _, _ => True
theorem cls_of {ds : List D} : (∀ d ∈ ds, cl d = true) → cls ds = true := by
  induction ds with
  | nil => intro _; rfl
  | cons d ds ih => intro h; rw [cls, h d List.mem_cons_self, ih fun z hz => h z (List.mem_cons_of_mem _ hz)]; rfl
theorem wf_cl : ∀ {n : Nat} {d : D}, wf n d → cl d = true
  | 0, .str x, _ => rfl
  | n + 1, .str x, _ => rfl
  | n + 1, .tup ds, h => cls_of fun d hd => wf_cl (h.2 d hd)
  | 0, .tup ds, h => h.elim
  | 0, .obj _, h => h.elim
  | n + 1, .obj _, h => h.elim
  | 0, .scr _, h => h.elim
  | n + 1, .scr _, h => h.elim
  | 0, .lst ds, h => h
  | n + 1, .lst ds, h => h
  | 0, .dct _ ds, h => h
  | n + 1, .dct _ ds, h => h
  | 0, .non, _ => rfl
  | 0, .bl _, _ => rfl
  | 0, .int _, _ => rfl
  | n + 1, .non, _ => rfl
  | n + 1, .bl _, _ => rfl
  | n + 1, .int _, _ => rfl
/-- is it good, its size, its depth -/
def ms : Nat → D → Bool × Int × Int
  | _, .str x => (decide ((x.length : Int) ≤ 300) && x.cps.toList.all (fun c => decide (c ∈ sgs)), x.length + 1, 1)
  | n + 1, .tup ds => (decide ((ds.length : Int) ≤ 40) && ds.all (fun d => (ms n d).1), 1 + (ds.map fun d => (ms n d).2.1).sum, 1 + maxD 0 (ds.map fun d => (ms n d).2.2))
  | _, _ => (false, 0, 0)
def mD (t : Bool × Int × Int) : D := .tup [.bl t.1, .int t.2.1, .int t.2.2]
theorem ms_str {n : Nat} {x : Str} : ms n (.str x) = (decide ((x.length : Int) ≤ 300) && x.cps.toList.all (fun c => decide (c ∈ sgs)), (x.length : Int) + 1, 1) := by cases n <;> rfl
theorem intL_map {α : Type} {f : α → Int} : ∀ l : List α, intL (l.map fun z => D.int (f z)) = some (l.map f)
  | [] => rfl
  | z :: l => by rw [List.map_cons, intL, intL_map l]; rfl
def cmp (i : Nat) : D → D
  | .tup ds => ds.getD i .non
  | _ => .non
theorem sgLb {t : Str} {S : Sto} : gLb DL.allB S [.lst ((DL.signs t).map (fun z => match z with | .str x => D.bl (decide (x.cps.getD 0 0 ∈ sgs)) | z => z))] = some (.bl (t.cps.toList.all fun c => decide (c ∈ sgs))) := by
  have := bls_map (f := fun c => decide (c ∈ sgs)) t.cps.toList
  rw [gLb_lst]
  simp only [DL.signs, List.map_map, Function.comp_def]
  rw [show (fun c => D.bl (decide ((Str.mk #[c]).cps.getD 0 0 ∈ sgs))) = fun c => D.bl (decide (c ∈ sgs)) from rfl, this]
  simp [DL.allB]
theorem meas_s : ∀ (n : Nat) (d : D), wf n d → ∀ {S : Sto} {Q : QE} {X : QX}, Q (mD (ms n d)) S → OkE (callS (m__law_measure (n + 1)) [d] S) Q X := by
  intro n
  induction n with
  | zero =>
    intro d hd S Q X h
    refine OkE_call0 (by simp [wf_cl hd]) ?_
    show OkE (fnD 6 (b__law_measure (m__law_measure 0)) [d] []) _ _
    refine k_fn0 ?_
    unfold b__law_measure
    cases d with
    | str x =>
      have hx : x.length ≤ 1000 := hd
      (repeat (first | (with_reducible first | refine k_seq ?_ | refine k_set ?_ | refine k_ret ?_ | refine k_c ?_ | refine k_call ?_ | refine k_aC ?_ | refine k_aN ?_ | refine k_2 ?_ | refine k_1 ?_ | refine k_tOf ?_ | refine k_sIf ?_ | refine k_B ?_ | refine k_tup ?_ | refine k_lst ?_ | refine k_new ?_ | refine k_addI ?_ | refine k_subI ?_ | refine k_eqI ?_ | refine k_neI ?_ | refine k_ltI ?_ | refine k_leI ?_ | refine k_gtI ?_ | refine k_geI ?_ | refine k_eqS ?_ | refine k_neS ?_ | refine k_for ?_ | refine k_forR ?_ | refine k_forG ?_ | refine k_pass ?_ | refine k_ex ?_ | refine k_retN ?_ | refine k_brk ?_ | refine k_cont ?_ | refine k_asg ?_ | refine k_setI ?_ | refine k_sl2 ?_ | refine k_slL ?_ | refine k_slH ?_ | refine k_app ?_ | refine k_ext ?_ | refine k_bk ?_ | refine k_no ?_ | refine k_tNo ?_ | refine k_tYs ?_ | refine k_if ?_ | refine k_gc ?_ | refine k_3B ?_ | refine k_lenT ?_ | refine k_lenL ?_ | refine k_lenC ?_ | refine k_tupT ?_ | refine k_tupL ?_ | refine k_lstL ?_ | refine k_lstC ?_ | refine k_lstT ?_ | refine k_ltS ?_ | refine k_m1 ?_ | refine k_m0 ?_ | refine k_cnt ?_ | refine k_min2 ?_ | refine k_eqB ?_ | refine k_neB ?_ | refine k_slT ?_ | refine k_slL' ?_ | refine k_slC ?_) | ((with_reducible apply k_v); rfl) | ((with_reducible refine k_bnd ?_ ?_); (first | omega | (simp; omega) | skip)) | ((with_reducible refine And.intro ?_ ?_); (first | rfl | exact Nat.le_of_ble_eq_true rfl | omega | (simp; done))) | ((with_reducible apply k_exe); rfl) | ((with_reducible first | apply k_condT | apply k_aug | apply k_lenO | apply k_tupO | apply k_isi | apply k_is | apply k_isn | apply k_ixT | apply k_ixL); rfl) | ((with_reducible apply k_condF); rfl) | ((with_reducible first | apply k_ixO | apply k_putI); rfl; rfl) | ((with_reducible first | apply k_lenS | apply k_mod | apply k_addS | apply k_mulI | apply k_addT | apply k_rep); (first | omega | (simp; omega) | (with_reducible assumption) | decide))))
      refine signs_s ?_
      (repeat (first | (with_reducible first | refine k_seq ?_ | refine k_set ?_ | refine k_ret ?_ | refine k_c ?_ | refine k_call ?_ | refine k_aC ?_ | refine k_aN ?_ | refine k_2 ?_ | refine k_1 ?_ | refine k_tOf ?_ | refine k_sIf ?_ | refine k_B ?_ | refine k_tup ?_ | refine k_lst ?_ | refine k_new ?_ | refine k_addI ?_ | refine k_subI ?_ | refine k_eqI ?_ | refine k_neI ?_ | refine k_ltI ?_ | refine k_leI ?_ | refine k_gtI ?_ | refine k_geI ?_ | refine k_eqS ?_ | refine k_neS ?_ | refine k_for ?_ | refine k_forR ?_ | refine k_forG ?_ | refine k_pass ?_ | refine k_ex ?_ | refine k_retN ?_ | refine k_brk ?_ | refine k_cont ?_ | refine k_asg ?_ | refine k_setI ?_ | refine k_sl2 ?_ | refine k_slL ?_ | refine k_slH ?_ | refine k_app ?_ | refine k_ext ?_ | refine k_bk ?_ | refine k_no ?_ | refine k_tNo ?_ | refine k_tYs ?_ | refine k_if ?_ | refine k_gc ?_ | refine k_3B ?_ | refine k_lenT ?_ | refine k_lenL ?_ | refine k_lenC ?_ | refine k_tupT ?_ | refine k_tupL ?_ | refine k_lstL ?_ | refine k_lstC ?_ | refine k_lstT ?_ | refine k_ltS ?_ | refine k_m1 ?_ | refine k_m0 ?_ | refine k_cnt ?_ | refine k_min2 ?_ | refine k_eqB ?_ | refine k_neB ?_ | refine k_slT ?_ | refine k_slL' ?_ | refine k_slC ?_) | ((with_reducible apply k_v); rfl) | ((with_reducible refine k_bnd ?_ ?_); (first | omega | (simp; omega) | skip)) | ((with_reducible refine And.intro ?_ ?_); (first | rfl | exact Nat.le_of_ble_eq_true rfl | omega | (simp; done))) | ((with_reducible apply k_exe); rfl) | ((with_reducible first | apply k_condT | apply k_aug | apply k_lenO | apply k_tupO | apply k_isi | apply k_is | apply k_isn | apply k_ixT | apply k_ixL); rfl) | ((with_reducible apply k_condF); rfl) | ((with_reducible first | apply k_ixO | apply k_putI); rfl; rfl) | ((with_reducible first | apply k_lenS | apply k_mod | apply k_addS | apply k_mulI | apply k_addT | apply k_rep); (first | omega | (simp; omega) | (with_reducible assumption) | decide))))
      refine k_anB ?_
      (repeat (first | (with_reducible first | refine k_seq ?_ | refine k_set ?_ | refine k_ret ?_ | refine k_c ?_ | refine k_call ?_ | refine k_aC ?_ | refine k_aN ?_ | refine k_2 ?_ | refine k_1 ?_ | refine k_tOf ?_ | refine k_sIf ?_ | refine k_B ?_ | refine k_tup ?_ | refine k_lst ?_ | refine k_new ?_ | refine k_addI ?_ | refine k_subI ?_ | refine k_eqI ?_ | refine k_neI ?_ | refine k_ltI ?_ | refine k_leI ?_ | refine k_gtI ?_ | refine k_geI ?_ | refine k_eqS ?_ | refine k_neS ?_ | refine k_for ?_ | refine k_forR ?_ | refine k_forG ?_ | refine k_pass ?_ | refine k_ex ?_ | refine k_retN ?_ | refine k_brk ?_ | refine k_cont ?_ | refine k_asg ?_ | refine k_setI ?_ | refine k_sl2 ?_ | refine k_slL ?_ | refine k_slH ?_ | refine k_app ?_ | refine k_ext ?_ | refine k_bk ?_ | refine k_no ?_ | refine k_tNo ?_ | refine k_tYs ?_ | refine k_if ?_ | refine k_gc ?_ | refine k_3B ?_ | refine k_lenT ?_ | refine k_lenL ?_ | refine k_lenC ?_ | refine k_tupT ?_ | refine k_tupL ?_ | refine k_lstL ?_ | refine k_lstC ?_ | refine k_lstT ?_ | refine k_ltS ?_ | refine k_m1 ?_ | refine k_m0 ?_ | refine k_cnt ?_ | refine k_min2 ?_ | refine k_eqB ?_ | refine k_neB ?_ | refine k_slT ?_ | refine k_slL' ?_ | refine k_slC ?_) | ((with_reducible apply k_v); rfl) | ((with_reducible refine k_bnd ?_ ?_); (first | omega | (simp; omega) | skip)) | ((with_reducible refine And.intro ?_ ?_); (first | rfl | exact Nat.le_of_ble_eq_true rfl | omega | (simp; done))) | ((with_reducible apply k_exe); rfl) | ((with_reducible first | apply k_condT | apply k_aug | apply k_lenO | apply k_tupO | apply k_isi | apply k_is | apply k_isn | apply k_ixT | apply k_ixL); rfl) | ((with_reducible apply k_condF); rfl) | ((with_reducible first | apply k_ixO | apply k_putI); rfl; rfl) | ((with_reducible first | apply k_lenS | apply k_mod | apply k_addS | apply k_mulI | apply k_addT | apply k_rep); (first | omega | (simp; omega) | (with_reducible assumption) | decide))))
      refine k_lcMap (f := fun z => match z with | .str x => .bl (decide (x.cps.getD 0 0 ∈ sgs)) | z => z) ?_
      (repeat (first | (with_reducible first | refine k_seq ?_ | refine k_set ?_ | refine k_ret ?_ | refine k_c ?_ | refine k_call ?_ | refine k_aC ?_ | refine k_aN ?_ | refine k_2 ?_ | refine k_1 ?_ | refine k_tOf ?_ | refine k_sIf ?_ | refine k_B ?_ | refine k_tup ?_ | refine k_lst ?_ | refine k_new ?_ | refine k_addI ?_ | refine k_subI ?_ | refine k_eqI ?_ | refine k_neI ?_ | refine k_ltI ?_ | refine k_leI ?_ | refine k_gtI ?_ | refine k_geI ?_ | refine k_eqS ?_ | refine k_neS ?_ | refine k_for ?_ | refine k_forR ?_ | refine k_forG ?_ | refine k_pass ?_ | refine k_ex ?_ | refine k_retN ?_ | refine k_brk ?_ | refine k_cont ?_ | refine k_asg ?_ | refine k_setI ?_ | refine k_sl2 ?_ | refine k_slL ?_ | refine k_slH ?_ | refine k_app ?_ | refine k_ext ?_ | refine k_bk ?_ | refine k_no ?_ | refine k_tNo ?_ | refine k_tYs ?_ | refine k_if ?_ | refine k_gc ?_ | refine k_3B ?_ | refine k_lenT ?_ | refine k_lenL ?_ | refine k_lenC ?_ | refine k_tupT ?_ | refine k_tupL ?_ | refine k_lstL ?_ | refine k_lstC ?_ | refine k_lstT ?_ | refine k_ltS ?_ | refine k_m1 ?_ | refine k_m0 ?_ | refine k_cnt ?_ | refine k_min2 ?_ | refine k_eqB ?_ | refine k_neB ?_ | refine k_slT ?_ | refine k_slL' ?_ | refine k_slC ?_) | ((with_reducible apply k_v); rfl) | ((with_reducible refine k_bnd ?_ ?_); (first | omega | (simp; omega) | skip)) | ((with_reducible refine And.intro ?_ ?_); (first | rfl | exact Nat.le_of_ble_eq_true rfl | omega | (simp; done))) | ((with_reducible apply k_exe); rfl) | ((with_reducible first | apply k_condT | apply k_aug | apply k_lenO | apply k_tupO | apply k_isi | apply k_is | apply k_isn | apply k_ixT | apply k_ixL); rfl) | ((with_reducible apply k_condF); rfl) | ((with_reducible first | apply k_ixO | apply k_putI); rfl; rfl) | ((with_reducible first | apply k_lenS | apply k_mod | apply k_addS | apply k_mulI | apply k_addT | apply k_rep); (first | omega | (simp; omega) | (with_reducible assumption) | decide))))
      refine ⟨by simpa [DL.signs, Str.length] using (by omega : x.length ≤ 16777216), ?_, ?_⟩
      · intro z hz
        simp only [DL.signs, List.mem_map] at hz
        obtain ⟨c, hc, rfl⟩ := hz
        refine ⟨_, rfl, ?_⟩
        (repeat (first | (with_reducible first | refine k_seq ?_ | refine k_set ?_ | refine k_ret ?_ | refine k_c ?_ | refine k_call ?_ | refine k_aC ?_ | refine k_aN ?_ | refine k_2 ?_ | refine k_1 ?_ | refine k_tOf ?_ | refine k_sIf ?_ | refine k_B ?_ | refine k_tup ?_ | refine k_lst ?_ | refine k_new ?_ | refine k_addI ?_ | refine k_subI ?_ | refine k_eqI ?_ | refine k_neI ?_ | refine k_ltI ?_ | refine k_leI ?_ | refine k_gtI ?_ | refine k_geI ?_ | refine k_eqS ?_ | refine k_neS ?_ | refine k_for ?_ | refine k_forR ?_ | refine k_forG ?_ | refine k_pass ?_ | refine k_ex ?_ | refine k_retN ?_ | refine k_brk ?_ | refine k_cont ?_ | refine k_asg ?_ | refine k_setI ?_ | refine k_sl2 ?_ | refine k_slL ?_ | refine k_slH ?_ | refine k_app ?_ | refine k_ext ?_ | refine k_bk ?_ | refine k_no ?_ | refine k_tNo ?_ | refine k_tYs ?_ | refine k_if ?_ | refine k_gc ?_ | refine k_3B ?_ | refine k_lenT ?_ | refine k_lenL ?_ | refine k_lenC ?_ | refine k_tupT ?_ | refine k_tupL ?_ | refine k_lstL ?_ | refine k_lstC ?_ | refine k_lstT ?_ | refine k_ltS ?_ | refine k_m1 ?_ | refine k_m0 ?_ | refine k_cnt ?_ | refine k_min2 ?_ | refine k_eqB ?_ | refine k_neB ?_ | refine k_slT ?_ | refine k_slL' ?_ | refine k_slC ?_) | ((with_reducible apply k_v); rfl) | ((with_reducible refine k_bnd ?_ ?_); (first | omega | (simp; omega) | skip)) | ((with_reducible refine And.intro ?_ ?_); (first | rfl | exact Nat.le_of_ble_eq_true rfl | omega | (simp; done))) | ((with_reducible apply k_exe); rfl) | ((with_reducible first | apply k_condT | apply k_aug | apply k_lenO | apply k_tupO | apply k_isi | apply k_is | apply k_isn | apply k_ixT | apply k_ixL); rfl) | ((with_reducible apply k_condF); rfl) | ((with_reducible first | apply k_ixO | apply k_putI); rfl; rfl) | ((with_reducible first | apply k_lenS | apply k_mod | apply k_addS | apply k_mulI | apply k_addT | apply k_rep); (first | omega | (simp; omega) | (with_reducible assumption) | decide))))
        refine k_opt (d := .bl (decide (c ∈ sgs))) ?_ ?_
        · simp [gIn, sin_one]
        · exact ⟨rfl, rfl⟩
      · (repeat (first | (with_reducible first | refine k_seq ?_ | refine k_set ?_ | refine k_ret ?_ | refine k_c ?_ | refine k_call ?_ | refine k_aC ?_ | refine k_aN ?_ | refine k_2 ?_ | refine k_1 ?_ | refine k_tOf ?_ | refine k_sIf ?_ | refine k_B ?_ | refine k_tup ?_ | refine k_lst ?_ | refine k_new ?_ | refine k_addI ?_ | refine k_subI ?_ | refine k_eqI ?_ | refine k_neI ?_ | refine k_ltI ?_ | refine k_leI ?_ | refine k_gtI ?_ | refine k_geI ?_ | refine k_eqS ?_ | refine k_neS ?_ | refine k_for ?_ | refine k_forR ?_ | refine k_forG ?_ | refine k_pass ?_ | refine k_ex ?_ | refine k_retN ?_ | refine k_brk ?_ | refine k_cont ?_ | refine k_asg ?_ | refine k_setI ?_ | refine k_sl2 ?_ | refine k_slL ?_ | refine k_slH ?_ | refine k_app ?_ | refine k_ext ?_ | refine k_bk ?_ | refine k_no ?_ | refine k_tNo ?_ | refine k_tYs ?_ | refine k_if ?_ | refine k_gc ?_ | refine k_3B ?_ | refine k_lenT ?_ | refine k_lenL ?_ | refine k_lenC ?_ | refine k_tupT ?_ | refine k_tupL ?_ | refine k_lstL ?_ | refine k_lstC ?_ | refine k_lstT ?_ | refine k_ltS ?_ | refine k_m1 ?_ | refine k_m0 ?_ | refine k_cnt ?_ | refine k_min2 ?_ | refine k_eqB ?_ | refine k_neB ?_ | refine k_slT ?_ | refine k_slL' ?_ | refine k_slC ?_) | ((with_reducible apply k_v); rfl) | ((with_reducible refine k_bnd ?_ ?_); (first | omega | (simp; omega) | skip)) | ((with_reducible refine And.intro ?_ ?_); (first | rfl | exact Nat.le_of_ble_eq_true rfl | omega | (simp; done))) | ((with_reducible apply k_exe); rfl) | ((with_reducible first | apply k_condT | apply k_aug | apply k_lenO | apply k_tupO | apply k_isi | apply k_is | apply k_isn | apply k_ixT | apply k_ixL); rfl) | ((with_reducible apply k_condF); rfl) | ((with_reducible first | apply k_ixO | apply k_putI); rfl; rfl) | ((with_reducible first | apply k_lenS | apply k_mod | apply k_addS | apply k_mulI | apply k_addT | apply k_rep); (first | omega | (simp; omega) | (with_reducible assumption) | decide))))
        refine k_opt sgLb ?_
        (repeat (first | (with_reducible first | refine k_seq ?_ | refine k_set ?_ | refine k_ret ?_ | refine k_c ?_ | refine k_call ?_ | refine k_aC ?_ | refine k_aN ?_ | refine k_2 ?_ | refine k_1 ?_ | refine k_tOf ?_ | refine k_sIf ?_ | refine k_B ?_ | refine k_tup ?_ | refine k_lst ?_ | refine k_new ?_ | refine k_addI ?_ | refine k_subI ?_ | refine k_eqI ?_ | refine k_neI ?_ | refine k_ltI ?_ | refine k_leI ?_ | refine k_gtI ?_ | refine k_geI ?_ | refine k_eqS ?_ | refine k_neS ?_ | refine k_for ?_ | refine k_forR ?_ | refine k_forG ?_ | refine k_pass ?_ | refine k_ex ?_ | refine k_retN ?_ | refine k_brk ?_ | refine k_cont ?_ | refine k_asg ?_ | refine k_setI ?_ | refine k_sl2 ?_ | refine k_slL ?_ | refine k_slH ?_ | refine k_app ?_ | refine k_ext ?_ | refine k_bk ?_ | refine k_no ?_ | refine k_tNo ?_ | refine k_tYs ?_ | refine k_if ?_ | refine k_gc ?_ | refine k_3B ?_ | refine k_lenT ?_ | refine k_lenL ?_ | refine k_lenC ?_ | refine k_tupT ?_ | refine k_tupL ?_ | refine k_lstL ?_ | refine k_lstC ?_ | refine k_lstT ?_ | refine k_ltS ?_ | refine k_m1 ?_ | refine k_m0 ?_ | refine k_cnt ?_ | refine k_min2 ?_ | refine k_eqB ?_ | refine k_neB ?_ | refine k_slT ?_ | refine k_slL' ?_ | refine k_slC ?_) | ((with_reducible apply k_v); rfl) | ((with_reducible refine k_bnd ?_ ?_); (first | omega | (simp; omega) | skip)) | ((with_reducible refine And.intro ?_ ?_); (first | rfl | exact Nat.le_of_ble_eq_true rfl | omega | (simp; done))) | ((with_reducible apply k_exe); rfl) | ((with_reducible first | apply k_condT | apply k_aug | apply k_lenO | apply k_tupO | apply k_isi | apply k_is | apply k_isn | apply k_ixT | apply k_ixL); rfl) | ((with_reducible apply k_condF); rfl) | ((with_reducible first | apply k_ixO | apply k_putI); rfl; rfl) | ((with_reducible first | apply k_lenS | apply k_mod | apply k_addS | apply k_mulI | apply k_addT | apply k_rep); (first | omega | (simp; omega) | (with_reducible assumption) | decide))))
        exact h
    | obj _ => exact hd.elim
    | scr _ => exact hd.elim
    | tup _ => exact hd.elim
    | _ =>
      (repeat (first | (with_reducible first | refine k_seq ?_ | refine k_set ?_ | refine k_ret ?_ | refine k_c ?_ | refine k_call ?_ | refine k_aC ?_ | refine k_aN ?_ | refine k_2 ?_ | refine k_1 ?_ | refine k_tOf ?_ | refine k_sIf ?_ | refine k_B ?_ | refine k_tup ?_ | refine k_lst ?_ | refine k_new ?_ | refine k_addI ?_ | refine k_subI ?_ | refine k_eqI ?_ | refine k_neI ?_ | refine k_ltI ?_ | refine k_leI ?_ | refine k_gtI ?_ | refine k_geI ?_ | refine k_eqS ?_ | refine k_neS ?_ | refine k_for ?_ | refine k_forR ?_ | refine k_forG ?_ | refine k_pass ?_ | refine k_ex ?_ | refine k_retN ?_ | refine k_brk ?_ | refine k_cont ?_ | refine k_asg ?_ | refine k_setI ?_ | refine k_sl2 ?_ | refine k_slL ?_ | refine k_slH ?_ | refine k_app ?_ | refine k_ext ?_ | refine k_bk ?_ | refine k_no ?_ | refine k_tNo ?_ | refine k_tYs ?_ | refine k_if ?_ | refine k_gc ?_ | refine k_3B ?_ | refine k_lenT ?_ | refine k_lenL ?_ | refine k_lenC ?_ | refine k_tupT ?_ | refine k_tupL ?_ | refine k_lstL ?_ | refine k_lstC ?_ | refine k_lstT ?_ | refine k_ltS ?_ | refine k_m1 ?_ | refine k_m0 ?_ | refine k_cnt ?_ | refine k_min2 ?_ | refine k_eqB ?_ | refine k_neB ?_ | refine k_slT ?_ | refine k_slL' ?_ | refine k_slC ?_) | ((with_reducible apply k_v); rfl) | ((with_reducible refine k_bnd ?_ ?_); (first | omega | (simp; omega) | skip)) | ((with_reducible refine And.intro ?_ ?_); (first | rfl | exact Nat.le_of_ble_eq_true rfl | omega | (simp; done))) | ((with_reducible apply k_exe); rfl) | ((with_reducible first | apply k_condT | apply k_aug | apply k_lenO | apply k_tupO | apply k_isi | apply k_is | apply k_isn | apply k_ixT | apply k_ixL); rfl) | ((with_reducible apply k_condF); rfl) | ((with_reducible first | apply k_ixO | apply k_putI); rfl; rfl) | ((with_reducible first | apply k_lenS | apply k_mod | apply k_addS | apply k_mulI | apply k_addT | apply k_rep); (first | omega | (simp; omega) | (with_reducible assumption) | decide))))
      exact h
  | succ n ih =>
    intro d hd S Q X h
    refine OkE_call0 (by simp [wf_cl hd]) ?_
    show OkE (fnD 6 (b__law_measure (m__law_measure (n + 1))) [d] []) _ _
    refine k_fn0 ?_
    unfold b__law_measure
    cases d with
    | str x =>
      have hx : x.length ≤ 1000 := hd
      (repeat (first | (with_reducible first | refine k_seq ?_ | refine k_set ?_ | refine k_ret ?_ | refine k_c ?_ | refine k_call ?_ | refine k_aC ?_ | refine k_aN ?_ | refine k_2 ?_ | refine k_1 ?_ | refine k_tOf ?_ | refine k_sIf ?_ | refine k_B ?_ | refine k_tup ?_ | refine k_lst ?_ | refine k_new ?_ | refine k_addI ?_ | refine k_subI ?_ | refine k_eqI ?_ | refine k_neI ?_ | refine k_ltI ?_ | refine k_leI ?_ | refine k_gtI ?_ | refine k_geI ?_ | refine k_eqS ?_ | refine k_neS ?_ | refine k_for ?_ | refine k_forR ?_ | refine k_forG ?_ | refine k_pass ?_ | refine k_ex ?_ | refine k_retN ?_ | refine k_brk ?_ | refine k_cont ?_ | refine k_asg ?_ | refine k_setI ?_ | refine k_sl2 ?_ | refine k_slL ?_ | refine k_slH ?_ | refine k_app ?_ | refine k_ext ?_ | refine k_bk ?_ | refine k_no ?_ | refine k_tNo ?_ | refine k_tYs ?_ | refine k_if ?_ | refine k_gc ?_ | refine k_3B ?_ | refine k_lenT ?_ | refine k_lenL ?_ | refine k_lenC ?_ | refine k_tupT ?_ | refine k_tupL ?_ | refine k_lstL ?_ | refine k_lstC ?_ | refine k_lstT ?_ | refine k_ltS ?_ | refine k_m1 ?_ | refine k_m0 ?_ | refine k_cnt ?_ | refine k_min2 ?_ | refine k_eqB ?_ | refine k_neB ?_ | refine k_slT ?_ | refine k_slL' ?_ | refine k_slC ?_) | ((with_reducible apply k_v); rfl) | ((with_reducible refine k_bnd ?_ ?_); (first | omega | (simp; omega) | skip)) | ((with_reducible refine And.intro ?_ ?_); (first | rfl | exact Nat.le_of_ble_eq_true rfl | omega | (simp; done))) | ((with_reducible apply k_exe); rfl) | ((with_reducible first | apply k_condT | apply k_aug | apply k_lenO | apply k_tupO | apply k_isi | apply k_is | apply k_isn | apply k_ixT | apply k_ixL); rfl) | ((with_reducible apply k_condF); rfl) | ((with_reducible first | apply k_ixO | apply k_putI); rfl; rfl) | ((with_reducible first | apply k_lenS | apply k_mod | apply k_addS | apply k_mulI | apply k_addT | apply k_rep); (first | omega | (simp; omega) | (with_reducible assumption) | decide))))
      refine signs_s ?_
      (repeat (first | (with_reducible first | refine k_seq ?_ | refine k_set ?_ | refine k_ret ?_ | refine k_c ?_ | refine k_call ?_ | refine k_aC ?_ | refine k_aN ?_ | refine k_2 ?_ | refine k_1 ?_ | refine k_tOf ?_ | refine k_sIf ?_ | refine k_B ?_ | refine k_tup ?_ | refine k_lst ?_ | refine k_new ?_ | refine k_addI ?_ | refine k_subI ?_ | refine k_eqI ?_ | refine k_neI ?_ | refine k_ltI ?_ | refine k_leI ?_ | refine k_gtI ?_ | refine k_geI ?_ | refine k_eqS ?_ | refine k_neS ?_ | refine k_for ?_ | refine k_forR ?_ | refine k_forG ?_ | refine k_pass ?_ | refine k_ex ?_ | refine k_retN ?_ | refine k_brk ?_ | refine k_cont ?_ | refine k_asg ?_ | refine k_setI ?_ | refine k_sl2 ?_ | refine k_slL ?_ | refine k_slH ?_ | refine k_app ?_ | refine k_ext ?_ | refine k_bk ?_ | refine k_no ?_ | refine k_tNo ?_ | refine k_tYs ?_ | refine k_if ?_ | refine k_gc ?_ | refine k_3B ?_ | refine k_lenT ?_ | refine k_lenL ?_ | refine k_lenC ?_ | refine k_tupT ?_ | refine k_tupL ?_ | refine k_lstL ?_ | refine k_lstC ?_ | refine k_lstT ?_ | refine k_ltS ?_ | refine k_m1 ?_ | refine k_m0 ?_ | refine k_cnt ?_ | refine k_min2 ?_ | refine k_eqB ?_ | refine k_neB ?_ | refine k_slT ?_ | refine k_slL' ?_ | refine k_slC ?_) | ((with_reducible apply k_v); rfl) | ((with_reducible refine k_bnd ?_ ?_); (first | omega | (simp; omega) | skip)) | ((with_reducible refine And.intro ?_ ?_); (first | rfl | exact Nat.le_of_ble_eq_true rfl | omega | (simp; done))) | ((with_reducible apply k_exe); rfl) | ((with_reducible first | apply k_condT | apply k_aug | apply k_lenO | apply k_tupO | apply k_isi | apply k_is | apply k_isn | apply k_ixT | apply k_ixL); rfl) | ((with_reducible apply k_condF); rfl) | ((with_reducible first | apply k_ixO | apply k_putI); rfl; rfl) | ((with_reducible first | apply k_lenS | apply k_mod | apply k_addS | apply k_mulI | apply k_addT | apply k_rep); (first | omega | (simp; omega) | (with_reducible assumption) | decide))))
      refine k_anB ?_
      (repeat (first | (with_reducible first | refine k_seq ?_ | refine k_set ?_ | refine k_ret ?_ | refine k_c ?_ | refine k_call ?_ | refine k_aC ?_ | refine k_aN ?_ | refine k_2 ?_ | refine k_1 ?_ | refine k_tOf ?_ | refine k_sIf ?_ | refine k_B ?_ | refine k_tup ?_ | refine k_lst ?_ | refine k_new ?_ | refine k_addI ?_ | refine k_subI ?_ | refine k_eqI ?_ | refine k_neI ?_ | refine k_ltI ?_ | refine k_leI ?_ | refine k_gtI ?_ | refine k_geI ?_ | refine k_eqS ?_ | refine k_neS ?_ | refine k_for ?_ | refine k_forR ?_ | refine k_forG ?_ | refine k_pass ?_ | refine k_ex ?_ | refine k_retN ?_ | refine k_brk ?_ | refine k_cont ?_ | refine k_asg ?_ | refine k_setI ?_ | refine k_sl2 ?_ | refine k_slL ?_ | refine k_slH ?_ | refine k_app ?_ | refine k_ext ?_ | refine k_bk ?_ | refine k_no ?_ | refine k_tNo ?_ | refine k_tYs ?_ | refine k_if ?_ | refine k_gc ?_ | refine k_3B ?_ | refine k_lenT ?_ | refine k_lenL ?_ | refine k_lenC ?_ | refine k_tupT ?_ | refine k_tupL ?_ | refine k_lstL ?_ | refine k_lstC ?_ | refine k_lstT ?_ | refine k_ltS ?_ | refine k_m1 ?_ | refine k_m0 ?_ | refine k_cnt ?_ | refine k_min2 ?_ | refine k_eqB ?_ | refine k_neB ?_ | refine k_slT ?_ | refine k_slL' ?_ | refine k_slC ?_) | ((with_reducible apply k_v); rfl) | ((with_reducible refine k_bnd ?_ ?_); (first | omega | (simp; omega) | skip)) | ((with_reducible refine And.intro ?_ ?_); (first | rfl | exact Nat.le_of_ble_eq_true rfl | omega | (simp; done))) | ((with_reducible apply k_exe); rfl) | ((with_reducible first | apply k_condT | apply k_aug | apply k_lenO | apply k_tupO | apply k_isi | apply k_is | apply k_isn | apply k_ixT | apply k_ixL); rfl) | ((with_reducible apply k_condF); rfl) | ((with_reducible first | apply k_ixO | apply k_putI); rfl; rfl) | ((with_reducible first | apply k_lenS | apply k_mod | apply k_addS | apply k_mulI | apply k_addT | apply k_rep); (first | omega | (simp; omega) | (with_reducible assumption) | decide))))
      refine k_lcMap (f := fun z => match z with | .str x => .bl (decide (x.cps.getD 0 0 ∈ sgs)) | z => z) ?_
      (repeat (first | (with_reducible first | refine k_seq ?_ | refine k_set ?_ | refine k_ret ?_ | refine k_c ?_ | refine k_call ?_ | refine k_aC ?_ | refine k_aN ?_ | refine k_2 ?_ | refine k_1 ?_ | refine k_tOf ?_ | refine k_sIf ?_ | refine k_B ?_ | refine k_tup ?_ | refine k_lst ?_ | refine k_new ?_ | refine k_addI ?_ | refine k_subI ?_ | refine k_eqI ?_ | refine k_neI ?_ | refine k_ltI ?_ | refine k_leI ?_ | refine k_gtI ?_ | refine k_geI ?_ | refine k_eqS ?_ | refine k_neS ?_ | refine k_for ?_ | refine k_forR ?_ | refine k_forG ?_ | refine k_pass ?_ | refine k_ex ?_ | refine k_retN ?_ | refine k_brk ?_ | refine k_cont ?_ | refine k_asg ?_ | refine k_setI ?_ | refine k_sl2 ?_ | refine k_slL ?_ | refine k_slH ?_ | refine k_app ?_ | refine k_ext ?_ | refine k_bk ?_ | refine k_no ?_ | refine k_tNo ?_ | refine k_tYs ?_ | refine k_if ?_ | refine k_gc ?_ | refine k_3B ?_ | refine k_lenT ?_ | refine k_lenL ?_ | refine k_lenC ?_ | refine k_tupT ?_ | refine k_tupL ?_ | refine k_lstL ?_ | refine k_lstC ?_ | refine k_lstT ?_ | refine k_ltS ?_ | refine k_m1 ?_ | refine k_m0 ?_ | refine k_cnt ?_ | refine k_min2 ?_ | refine k_eqB ?_ | refine k_neB ?_ | refine k_slT ?_ | refine k_slL' ?_ | refine k_slC ?_) | ((with_reducible apply k_v); rfl) | ((with_reducible refine k_bnd ?_ ?_); (first | omega | (simp; omega) | skip)) | ((with_reducible refine And.intro ?_ ?_); (first | rfl | exact Nat.le_of_ble_eq_true rfl | omega | (simp; done))) | ((with_reducible apply k_exe); rfl) | ((with_reducible first | apply k_condT | apply k_aug | apply k_lenO | apply k_tupO | apply k_isi | apply k_is | apply k_isn | apply k_ixT | apply k_ixL); rfl) | ((with_reducible apply k_condF); rfl) | ((with_reducible first | apply k_ixO | apply k_putI); rfl; rfl) | ((with_reducible first | apply k_lenS | apply k_mod | apply k_addS | apply k_mulI | apply k_addT | apply k_rep); (first | omega | (simp; omega) | (with_reducible assumption) | decide))))
      refine ⟨by simpa [DL.signs, Str.length] using (by omega : x.length ≤ 16777216), ?_, ?_⟩
      · intro z hz
        simp only [DL.signs, List.mem_map] at hz
        obtain ⟨c, hc, rfl⟩ := hz
        refine ⟨_, rfl, ?_⟩
        (repeat (first | (with_reducible first | refine k_seq ?_ | refine k_set ?_ | refine k_ret ?_ | refine k_c ?_ | refine k_call ?_ | refine k_aC ?_ | refine k_aN ?_ | refine k_2 ?_ | refine k_1 ?_ | refine k_tOf ?_ | refine k_sIf ?_ | refine k_B ?_ | refine k_tup ?_ | refine k_lst ?_ | refine k_new ?_ | refine k_addI ?_ | refine k_subI ?_ | refine k_eqI ?_ | refine k_neI ?_ | refine k_ltI ?_ | refine k_leI ?_ | refine k_gtI ?_ | refine k_geI ?_ | refine k_eqS ?_ | refine k_neS ?_ | refine k_for ?_ | refine k_forR ?_ | refine k_forG ?_ | refine k_pass ?_ | refine k_ex ?_ | refine k_retN ?_ | refine k_brk ?_ | refine k_cont ?_ | refine k_asg ?_ | refine k_setI ?_ | refine k_sl2 ?_ | refine k_slL ?_ | refine k_slH ?_ | refine k_app ?_ | refine k_ext ?_ | refine k_bk ?_ | refine k_no ?_ | refine k_tNo ?_ | refine k_tYs ?_ | refine k_if ?_ | refine k_gc ?_ | refine k_3B ?_ | refine k_lenT ?_ | refine k_lenL ?_ | refine k_lenC ?_ | refine k_tupT ?_ | refine k_tupL ?_ | refine k_lstL ?_ | refine k_lstC ?_ | refine k_lstT ?_ | refine k_ltS ?_ | refine k_m1 ?_ | refine k_m0 ?_ | refine k_cnt ?_ | refine k_min2 ?_ | refine k_eqB ?_ | refine k_neB ?_ | refine k_slT ?_ | refine k_slL' ?_ | refine k_slC ?_) | ((with_reducible apply k_v); rfl) | ((with_reducible refine k_bnd ?_ ?_); (first | omega | (simp; omega) | skip)) | ((with_reducible refine And.intro ?_ ?_); (first | rfl | exact Nat.le_of_ble_eq_true rfl | omega | (simp; done))) | ((with_reducible apply k_exe); rfl) | ((with_reducible first | apply k_condT | apply k_aug | apply k_lenO | apply k_tupO | apply k_isi | apply k_is | apply k_isn | apply k_ixT | apply k_ixL); rfl) | ((with_reducible apply k_condF); rfl) | ((with_reducible first | apply k_ixO | apply k_putI); rfl; rfl) | ((with_reducible first | apply k_lenS | apply k_mod | apply k_addS | apply k_mulI | apply k_addT | apply k_rep); (first | omega | (simp; omega) | (with_reducible assumption) | decide))))
        refine k_opt (d := .bl (decide (c ∈ sgs))) ?_ ?_
        · simp [gIn, sin_one]
        · exact ⟨rfl, rfl⟩
      · (repeat (first | (with_reducible first | refine k_seq ?_ | refine k_set ?_ | refine k_ret ?_ | refine k_c ?_ | refine k_call ?_ | refine k_aC ?_ | refine k_aN ?_ | refine k_2 ?_ | refine k_1 ?_ | refine k_tOf ?_ | refine k_sIf ?_ | refine k_B ?_ | refine k_tup ?_ | refine k_lst ?_ | refine k_new ?_ | refine k_addI ?_ | refine k_subI ?_ | refine k_eqI ?_ | refine k_neI ?_ | refine k_ltI ?_ | refine k_leI ?_ | refine k_gtI ?_ | refine k_geI ?_ | refine k_eqS ?_ | refine k_neS ?_ | refine k_for ?_ | refine k_forR ?_ | refine k_forG ?_ | refine k_pass ?_ | refine k_ex ?_ | refine k_retN ?_ | refine k_brk ?_ | refine k_cont ?_ | refine k_asg ?_ | refine k_setI ?_ | refine k_sl2 ?_ | refine k_slL ?_ | refine k_slH ?_ | refine k_app ?_ | refine k_ext ?_ | refine k_bk ?_ | refine k_no ?_ | refine k_tNo ?_ | refine k_tYs ?_ | refine k_if ?_ | refine k_gc ?_ | refine k_3B ?_ | refine k_lenT ?_ | refine k_lenL ?_ | refine k_lenC ?_ | refine k_tupT ?_ | refine k_tupL ?_ | refine k_lstL ?_ | refine k_lstC ?_ | refine k_lstT ?_ | refine k_ltS ?_ | refine k_m1 ?_ | refine k_m0 ?_ | refine k_cnt ?_ | refine k_min2 ?_ | refine k_eqB ?_ | refine k_neB ?_ | refine k_slT ?_ | refine k_slL' ?_ | refine k_slC ?_) | ((with_reducible apply k_v); rfl) | ((with_reducible refine k_bnd ?_ ?_); (first | omega | (simp; omega) | skip)) | ((with_reducible refine And.intro ?_ ?_); (first | rfl | exact Nat.le_of_ble_eq_true rfl | omega | (simp; done))) | ((with_reducible apply k_exe); rfl) | ((with_reducible first | apply k_condT | apply k_aug | apply k_lenO | apply k_tupO | apply k_isi | apply k_is | apply k_isn | apply k_ixT | apply k_ixL); rfl) | ((with_reducible apply k_condF); rfl) | ((with_reducible first | apply k_ixO | apply k_putI); rfl; rfl) | ((with_reducible first | apply k_lenS | apply k_mod | apply k_addS | apply k_mulI | apply k_addT | apply k_rep); (first | omega | (simp; omega) | (with_reducible assumption) | decide))))
        refine k_opt sgLb ?_
        (repeat (first | (with_reducible first | refine k_seq ?_ | refine k_set ?_ | refine k_ret ?_ | refine k_c ?_ | refine k_call ?_ | refine k_aC ?_ | refine k_aN ?_ | refine k_2 ?_ | refine k_1 ?_ | refine k_tOf ?_ | refine k_sIf ?_ | refine k_B ?_ | refine k_tup ?_ | refine k_lst ?_ | refine k_new ?_ | refine k_addI ?_ | refine k_subI ?_ | refine k_eqI ?_ | refine k_neI ?_ | refine k_ltI ?_ | refine k_leI ?_ | refine k_gtI ?_ | refine k_geI ?_ | refine k_eqS ?_ | refine k_neS ?_ | refine k_for ?_ | refine k_forR ?_ | refine k_forG ?_ | refine k_pass ?_ | refine k_ex ?_ | refine k_retN ?_ | refine k_brk ?_ | refine k_cont ?_ | refine k_asg ?_ | refine k_setI ?_ | refine k_sl2 ?_ | refine k_slL ?_ | refine k_slH ?_ | refine k_app ?_ | refine k_ext ?_ | refine k_bk ?_ | refine k_no ?_ | refine k_tNo ?_ | refine k_tYs ?_ | refine k_if ?_ | refine k_gc ?_ | refine k_3B ?_ | refine k_lenT ?_ | refine k_lenL ?_ | refine k_lenC ?_ | refine k_tupT ?_ | refine k_tupL ?_ | refine k_lstL ?_ | refine k_lstC ?_ | refine k_lstT ?_ | refine k_ltS ?_ | refine k_m1 ?_ | refine k_m0 ?_ | refine k_cnt ?_ | refine k_min2 ?_ | refine k_eqB ?_ | refine k_neB ?_ | refine k_slT ?_ | refine k_slL' ?_ | refine k_slC ?_) | ((with_reducible apply k_v); rfl) | ((with_reducible refine k_bnd ?_ ?_); (first | omega | (simp; omega) | skip)) | ((with_reducible refine And.intro ?_ ?_); (first | rfl | exact Nat.le_of_ble_eq_true rfl | omega | (simp; done))) | ((with_reducible apply k_exe); rfl) | ((with_reducible first | apply k_condT | apply k_aug | apply k_lenO | apply k_tupO | apply k_isi | apply k_is | apply k_isn | apply k_ixT | apply k_ixL); rfl) | ((with_reducible apply k_condF); rfl) | ((with_reducible first | apply k_ixO | apply k_putI); rfl; rfl) | ((with_reducible first | apply k_lenS | apply k_mod | apply k_addS | apply k_mulI | apply k_addT | apply k_rep); (first | omega | (simp; omega) | (with_reducible assumption) | decide))))
        exact h
    | obj _ => exact hd.elim
    | scr _ => exact hd.elim
    | tup ds =>
      have hl : ds.length ≤ 1000 := hd.1
      (repeat (first | (with_reducible first | refine k_seq ?_ | refine k_set ?_ | refine k_ret ?_ | refine k_c ?_ | refine k_call ?_ | refine k_aC ?_ | refine k_aN ?_ | refine k_2 ?_ | refine k_1 ?_ | refine k_tOf ?_ | refine k_sIf ?_ | refine k_B ?_ | refine k_tup ?_ | refine k_lst ?_ | refine k_new ?_ | refine k_addI ?_ | refine k_subI ?_ | refine k_eqI ?_ | refine k_neI ?_ | refine k_ltI ?_ | refine k_leI ?_ | refine k_gtI ?_ | refine k_geI ?_ | refine k_eqS ?_ | refine k_neS ?_ | refine k_for ?_ | refine k_forR ?_ | refine k_forG ?_ | refine k_pass ?_ | refine k_ex ?_ | refine k_retN ?_ | refine k_brk ?_ | refine k_cont ?_ | refine k_asg ?_ | refine k_setI ?_ | refine k_sl2 ?_ | refine k_slL ?_ | refine k_slH ?_ | refine k_app ?_ | refine k_ext ?_ | refine k_bk ?_ | refine k_no ?_ | refine k_tNo ?_ | refine k_tYs ?_ | refine k_if ?_ | refine k_gc ?_ | refine k_3B ?_ | refine k_lenT ?_ | refine k_lenL ?_ | refine k_lenC ?_ | refine k_tupT ?_ | refine k_tupL ?_ | refine k_lstL ?_ | refine k_lstC ?_ | refine k_lstT ?_ | refine k_ltS ?_ | refine k_m1 ?_ | refine k_m0 ?_ | refine k_cnt ?_ | refine k_min2 ?_ | refine k_eqB ?_ | refine k_neB ?_ | refine k_slT ?_ | refine k_slL' ?_ | refine k_slC ?_) | ((with_reducible apply k_v); rfl) | ((with_reducible refine k_bnd ?_ ?_); (first | omega | (simp; omega) | skip)) | ((with_reducible refine And.intro ?_ ?_); (first | rfl | exact Nat.le_of_ble_eq_true rfl | omega | (simp; done))) | ((with_reducible apply k_exe); rfl) | ((with_reducible first | apply k_condT | apply k_aug | apply k_lenO | apply k_tupO | apply k_isi | apply k_is | apply k_isn | apply k_ixT | apply k_ixL); rfl) | ((with_reducible apply k_condF); rfl) | ((with_reducible first | apply k_ixO | apply k_putI); rfl; rfl) | ((with_reducible first | apply k_lenS | apply k_mod | apply k_addS | apply k_mulI | apply k_addT | apply k_rep); (first | omega | (simp; omega) | (with_reducible assumption) | decide))))
      refine k_lcMap (f := fun z => mD (ms n z)) ?_
      (repeat (first | (with_reducible first | refine k_seq ?_ | refine k_set ?_ | refine k_ret ?_ | refine k_c ?_ | refine k_call ?_ | refine k_aC ?_ | refine k_aN ?_ | refine k_2 ?_ | refine k_1 ?_ | refine k_tOf ?_ | refine k_sIf ?_ | refine k_B ?_ | refine k_tup ?_ | refine k_lst ?_ | refine k_new ?_ | refine k_addI ?_ | refine k_subI ?_ | refine k_eqI ?_ | refine k_neI ?_ | refine k_ltI ?_ | refine k_leI ?_ | refine k_gtI ?_ | refine k_geI ?_ | refine k_eqS ?_ | refine k_neS ?_ | refine k_for ?_ | refine k_forR ?_ | refine k_forG ?_ | refine k_pass ?_ | refine k_ex ?_ | refine k_retN ?_ | refine k_brk ?_ | refine k_cont ?_ | refine k_asg ?_ | refine k_setI ?_ | refine k_sl2 ?_ | refine k_slL ?_ | refine k_slH ?_ | refine k_app ?_ | refine k_ext ?_ | refine k_bk ?_ | refine k_no ?_ | refine k_tNo ?_ | refine k_tYs ?_ | refine k_if ?_ | refine k_gc ?_ | refine k_3B ?_ | refine k_lenT ?_ | refine k_lenL ?_ | refine k_lenC ?_ | refine k_tupT ?_ | refine k_tupL ?_ | refine k_lstL ?_ | refine k_lstC ?_ | refine k_lstT ?_ | refine k_ltS ?_ | refine k_m1 ?_ | refine k_m0 ?_ | refine k_cnt ?_ | refine k_min2 ?_ | refine k_eqB ?_ | refine k_neB ?_ | refine k_slT ?_ | refine k_slL' ?_ | refine k_slC ?_) | ((with_reducible apply k_v); rfl) | ((with_reducible refine k_bnd ?_ ?_); (first | omega | (simp; omega) | skip)) | ((with_reducible refine And.intro ?_ ?_); (first | rfl | exact Nat.le_of_ble_eq_true rfl | omega | (simp; done))) | ((with_reducible apply k_exe); rfl) | ((with_reducible first | apply k_condT | apply k_aug | apply k_lenO | apply k_tupO | apply k_isi | apply k_is | apply k_isn | apply k_ixT | apply k_ixL); rfl) | ((with_reducible apply k_condF); rfl) | ((with_reducible first | apply k_ixO | apply k_putI); rfl; rfl) | ((with_reducible first | apply k_lenS | apply k_mod | apply k_addS | apply k_mulI | apply k_addT | apply k_rep); (first | omega | (simp; omega) | (with_reducible assumption) | decide))))
      refine ⟨fun z hz => ⟨_, rfl, ?_⟩, ?_⟩
      · (repeat (first | (with_reducible first | refine k_seq ?_ | refine k_set ?_ | refine k_ret ?_ | refine k_c ?_ | refine k_call ?_ | refine k_aC ?_ | refine k_aN ?_ | refine k_2 ?_ | refine k_1 ?_ | refine k_tOf ?_ | refine k_sIf ?_ | refine k_B ?_ | refine k_tup ?_ | refine k_lst ?_ | refine k_new ?_ | refine k_addI ?_ | refine k_subI ?_ | refine k_eqI ?_ | refine k_neI ?_ | refine k_ltI ?_ | refine k_leI ?_ | refine k_gtI ?_ | refine k_geI ?_ | refine k_eqS ?_ | refine k_neS ?_ | refine k_for ?_ | refine k_forR ?_ | refine k_forG ?_ | refine k_pass ?_ | refine k_ex ?_ | refine k_retN ?_ | refine k_brk ?_ | refine k_cont ?_ | refine k_asg ?_ | refine k_setI ?_ | refine k_sl2 ?_ | refine k_slL ?_ | refine k_slH ?_ | refine k_app ?_ | refine k_ext ?_ | refine k_bk ?_ | refine k_no ?_ | refine k_tNo ?_ | refine k_tYs ?_ | refine k_if ?_ | refine k_gc ?_ | refine k_3B ?_ | refine k_lenT ?_ | refine k_lenL ?_ | refine k_lenC ?_ | refine k_tupT ?_ | refine k_tupL ?_ | refine k_lstL ?_ | refine k_lstC ?_ | refine k_lstT ?_ | refine k_ltS ?_ | refine k_m1 ?_ | refine k_m0 ?_ | refine k_cnt ?_ | refine k_min2 ?_ | refine k_eqB ?_ | refine k_neB ?_ | refine k_slT ?_ | refine k_slL' ?_ | refine k_slC ?_) | ((with_reducible apply k_v); rfl) | ((with_reducible refine k_bnd ?_ ?_); (first | omega | (simp; omega) | skip)) | ((with_reducible refine And.intro ?_ ?_); (first | rfl | exact Nat.le_of_ble_eq_true rfl | omega | (simp; done))) | ((with_reducible apply k_exe); rfl) | ((with_reducible first | apply k_condT | apply k_aug | apply k_lenO | apply k_tupO | apply k_isi | apply k_is | apply k_isn | apply k_ixT | apply k_ixL); rfl) | ((with_reducible apply k_condF); rfl) | ((with_reducible first | apply k_ixO | apply k_putI); rfl; rfl) | ((with_reducible first | apply k_lenS | apply k_mod | apply k_addS | apply k_mulI | apply k_addT | apply k_rep); (first | omega | (simp; omega) | (with_reducible assumption) | decide))))
        refine ih z (hd.2 z hz) ?_
        exact ⟨rfl, rfl⟩
      (repeat (first | (with_reducible first | refine k_seq ?_ | refine k_set ?_ | refine k_ret ?_ | refine k_c ?_ | refine k_call ?_ | refine k_aC ?_ | refine k_aN ?_ | refine k_2 ?_ | refine k_1 ?_ | refine k_tOf ?_ | refine k_sIf ?_ | refine k_B ?_ | refine k_tup ?_ | refine k_lst ?_ | refine k_new ?_ | refine k_addI ?_ | refine k_subI ?_ | refine k_eqI ?_ | refine k_neI ?_ | refine k_ltI ?_ | refine k_leI ?_ | refine k_gtI ?_ | refine k_geI ?_ | refine k_eqS ?_ | refine k_neS ?_ | refine k_for ?_ | refine k_forR ?_ | refine k_forG ?_ | refine k_pass ?_ | refine k_ex ?_ | refine k_retN ?_ | refine k_brk ?_ | refine k_cont ?_ | refine k_asg ?_ | refine k_setI ?_ | refine k_sl2 ?_ | refine k_slL ?_ | refine k_slH ?_ | refine k_app ?_ | refine k_ext ?_ | refine k_bk ?_ | refine k_no ?_ | refine k_tNo ?_ | refine k_tYs ?_ | refine k_if ?_ | refine k_gc ?_ | refine k_3B ?_ | refine k_lenT ?_ | refine k_lenL ?_ | refine k_lenC ?_ | refine k_tupT ?_ | refine k_tupL ?_ | refine k_lstL ?_ | refine k_lstC ?_ | refine k_lstT ?_ | refine k_ltS ?_ | refine k_m1 ?_ | refine k_m0 ?_ | refine k_cnt ?_ | refine k_min2 ?_ | refine k_eqB ?_ | refine k_neB ?_ | refine k_slT ?_ | refine k_slL' ?_ | refine k_slC ?_) | ((with_reducible apply k_v); rfl) | ((with_reducible refine k_bnd ?_ ?_); (first | omega | (simp; omega) | skip)) | ((with_reducible refine And.intro ?_ ?_); (first | rfl | exact Nat.le_of_ble_eq_true rfl | omega | (simp; done))) | ((with_reducible apply k_exe); rfl) | ((with_reducible first | apply k_condT | apply k_aug | apply k_lenO | apply k_tupO | apply k_isi | apply k_is | apply k_isn | apply k_ixT | apply k_ixL); rfl) | ((with_reducible apply k_condF); rfl) | ((with_reducible first | apply k_ixO | apply k_putI); rfl; rfl) | ((with_reducible first | apply k_lenS | apply k_mod | apply k_addS | apply k_mulI | apply k_addT | apply k_rep); (first | omega | (simp; omega) | (with_reducible assumption) | decide))))
      refine k_anB ?_
      (repeat (first | (with_reducible first | refine k_seq ?_ | refine k_set ?_ | refine k_ret ?_ | refine k_c ?_ | refine k_call ?_ | refine k_aC ?_ | refine k_aN ?_ | refine k_2 ?_ | refine k_1 ?_ | refine k_tOf ?_ | refine k_sIf ?_ | refine k_B ?_ | refine k_tup ?_ | refine k_lst ?_ | refine k_new ?_ | refine k_addI ?_ | refine k_subI ?_ | refine k_eqI ?_ | refine k_neI ?_ | refine k_ltI ?_ | refine k_leI ?_ | refine k_gtI ?_ | refine k_geI ?_ | refine k_eqS ?_ | refine k_neS ?_ | refine k_for ?_ | refine k_forR ?_ | refine k_forG ?_ | refine k_pass ?_ | refine k_ex ?_ | refine k_retN ?_ | refine k_brk ?_ | refine k_cont ?_ | refine k_asg ?_ | refine k_setI ?_ | refine k_sl2 ?_ | refine k_slL ?_ | refine k_slH ?_ | refine k_app ?_ | refine k_ext ?_ | refine k_bk ?_ | refine k_no ?_ | refine k_tNo ?_ | refine k_tYs ?_ | refine k_if ?_ | refine k_gc ?_ | refine k_3B ?_ | refine k_lenT ?_ | refine k_lenL ?_ | refine k_lenC ?_ | refine k_tupT ?_ | refine k_tupL ?_ | refine k_lstL ?_ | refine k_lstC ?_ | refine k_lstT ?_ | refine k_ltS ?_ | refine k_m1 ?_ | refine k_m0 ?_ | refine k_cnt ?_ | refine k_min2 ?_ | refine k_eqB ?_ | refine k_neB ?_ | refine k_slT ?_ | refine k_slL' ?_ | refine k_slC ?_) | ((with_reducible apply k_v); rfl) | ((with_reducible refine k_bnd ?_ ?_); (first | omega | (simp; omega) | skip)) | ((with_reducible refine And.intro ?_ ?_); (first | rfl | exact Nat.le_of_ble_eq_true rfl | omega | (simp; done))) | ((with_reducible apply k_exe); rfl) | ((with_reducible first | apply k_condT | apply k_aug | apply k_lenO | apply k_tupO | apply k_isi | apply k_is | apply k_isn | apply k_ixT | apply k_ixL); rfl) | ((with_reducible apply k_condF); rfl) | ((with_reducible first | apply k_ixO | apply k_putI); rfl; rfl) | ((with_reducible first | apply k_lenS | apply k_mod | apply k_addS | apply k_mulI | apply k_addT | apply k_rep); (first | omega | (simp; omega) | (with_reducible assumption) | decide))))
      refine k_lcMap (f := cmp 0) ?_
      (repeat (first | (with_reducible first | refine k_seq ?_ | refine k_set ?_ | refine k_ret ?_ | refine k_c ?_ | refine k_call ?_ | refine k_aC ?_ | refine k_aN ?_ | refine k_2 ?_ | refine k_1 ?_ | refine k_tOf ?_ | refine k_sIf ?_ | refine k_B ?_ | refine k_tup ?_ | refine k_lst ?_ | refine k_new ?_ | refine k_addI ?_ | refine k_subI ?_ | refine k_eqI ?_ | refine k_neI ?_ | refine k_ltI ?_ | refine k_leI ?_ | refine k_gtI ?_ | refine k_geI ?_ | refine k_eqS ?_ | refine k_neS ?_ | refine k_for ?_ | refine k_forR ?_ | refine k_forG ?_ | refine k_pass ?_ | refine k_ex ?_ | refine k_retN ?_ | refine k_brk ?_ | refine k_cont ?_ | refine k_asg ?_ | refine k_setI ?_ | refine k_sl2 ?_ | refine k_slL ?_ | refine k_slH ?_ | refine k_app ?_ | refine k_ext ?_ | refine k_bk ?_ | refine k_no ?_ | refine k_tNo ?_ | refine k_tYs ?_ | refine k_if ?_ | refine k_gc ?_ | refine k_3B ?_ | refine k_lenT ?_ | refine k_lenL ?_ | refine k_lenC ?_ | refine k_tupT ?_ | refine k_tupL ?_ | refine k_lstL ?_ | refine k_lstC ?_ | refine k_lstT ?_ | refine k_ltS ?_ | refine k_m1 ?_ | refine k_m0 ?_ | refine k_cnt ?_ | refine k_min2 ?_ | refine k_eqB ?_ | refine k_neB ?_ | refine k_slT ?_ | refine k_slL' ?_ | refine k_slC ?_) | ((with_reducible apply k_v); rfl) | ((with_reducible refine k_bnd ?_ ?_); (first | omega | (simp; omega) | skip)) | ((with_reducible refine And.intro ?_ ?_); (first | rfl | exact Nat.le_of_ble_eq_true rfl | omega | (simp; done))) | ((with_reducible apply k_exe); rfl) | ((with_reducible first | apply k_condT | apply k_aug | apply k_lenO | apply k_tupO | apply k_isi | apply k_is | apply k_isn | apply k_ixT | apply k_ixL); rfl) | ((with_reducible apply k_condF); rfl) | ((with_reducible first | apply k_ixO | apply k_putI); rfl; rfl) | ((with_reducible first | apply k_lenS | apply k_mod | apply k_addS | apply k_mulI | apply k_addT | apply k_rep); (first | omega | (simp; omega) | (with_reducible assumption) | decide))))
      refine ⟨by simpa using (by omega : ds.length ≤ 16777216), fun z hz => ?_, ?_⟩
      · obtain ⟨y, hy, rfl⟩ := List.mem_map.mp hz
        refine ⟨_, rfl, ?_⟩
        (repeat (first | (with_reducible first | refine k_seq ?_ | refine k_set ?_ | refine k_ret ?_ | refine k_c ?_ | refine k_call ?_ | refine k_aC ?_ | refine k_aN ?_ | refine k_2 ?_ | refine k_1 ?_ | refine k_tOf ?_ | refine k_sIf ?_ | refine k_B ?_ | refine k_tup ?_ | refine k_lst ?_ | refine k_new ?_ | refine k_addI ?_ | refine k_subI ?_ | refine k_eqI ?_ | refine k_neI ?_ | refine k_ltI ?_ | refine k_leI ?_ | refine k_gtI ?_ | refine k_geI ?_ | refine k_eqS ?_ | refine k_neS ?_ | refine k_for ?_ | refine k_forR ?_ | refine k_forG ?_ | refine k_pass ?_ | refine k_ex ?_ | refine k_retN ?_ | refine k_brk ?_ | refine k_cont ?_ | refine k_asg ?_ | refine k_setI ?_ | refine k_sl2 ?_ | refine k_slL ?_ | refine k_slH ?_ | refine k_app ?_ | refine k_ext ?_ | refine k_bk ?_ | refine k_no ?_ | refine k_tNo ?_ | refine k_tYs ?_ | refine k_if ?_ | refine k_gc ?_ | refine k_3B ?_ | refine k_lenT ?_ | refine k_lenL ?_ | refine k_lenC ?_ | refine k_tupT ?_ | refine k_tupL ?_ | refine k_lstL ?_ | refine k_lstC ?_ | refine k_lstT ?_ | refine k_ltS ?_ | refine k_m1 ?_ | refine k_m0 ?_ | refine k_cnt ?_ | refine k_min2 ?_ | refine k_eqB ?_ | refine k_neB ?_ | refine k_slT ?_ | refine k_slL' ?_ | refine k_slC ?_) | ((with_reducible apply k_v); rfl) | ((with_reducible refine k_bnd ?_ ?_); (first | omega | (simp; omega) | skip)) | ((with_reducible refine And.intro ?_ ?_); (first | rfl | exact Nat.le_of_ble_eq_true rfl | omega | (simp; done))) | ((with_reducible apply k_exe); rfl) | ((with_reducible first | apply k_condT | apply k_aug | apply k_lenO | apply k_tupO | apply k_isi | apply k_is | apply k_isn | apply k_ixT | apply k_ixL); rfl) | ((with_reducible apply k_condF); rfl) | ((with_reducible first | apply k_ixO | apply k_putI); rfl; rfl) | ((with_reducible first | apply k_lenS | apply k_mod | apply k_addS | apply k_mulI | apply k_addT | apply k_rep); (first | omega | (simp; omega) | (with_reducible assumption) | decide))))
        exact k_ixT (ds := [.bl (ms n y).1, .int (ms n y).2.1, .int (ms n y).2.2]) rfl ⟨rfl, rfl⟩
      (repeat (first | (with_reducible first | refine k_seq ?_ | refine k_set ?_ | refine k_ret ?_ | refine k_c ?_ | refine k_call ?_ | refine k_aC ?_ | refine k_aN ?_ | refine k_2 ?_ | refine k_1 ?_ | refine k_tOf ?_ | refine k_sIf ?_ | refine k_B ?_ | refine k_tup ?_ | refine k_lst ?_ | refine k_new ?_ | refine k_addI ?_ | refine k_subI ?_ | refine k_eqI ?_ | refine k_neI ?_ | refine k_ltI ?_ | refine k_leI ?_ | refine k_gtI ?_ | refine k_geI ?_ | refine k_eqS ?_ | refine k_neS ?_ | refine k_for ?_ | refine k_forR ?_ | refine k_forG ?_ | refine k_pass ?_ | refine k_ex ?_ | refine k_retN ?_ | refine k_brk ?_ | refine k_cont ?_ | refine k_asg ?_ | refine k_setI ?_ | refine k_sl2 ?_ | refine k_slL ?_ | refine k_slH ?_ | refine k_app ?_ | refine k_ext ?_ | refine k_bk ?_ | refine k_no ?_ | refine k_tNo ?_ | refine k_tYs ?_ | refine k_if ?_ | refine k_gc ?_ | refine k_3B ?_ | refine k_lenT ?_ | refine k_lenL ?_ | refine k_lenC ?_ | refine k_tupT ?_ | refine k_tupL ?_ | refine k_lstL ?_ | refine k_lstC ?_ | refine k_lstT ?_ | refine k_ltS ?_ | refine k_m1 ?_ | refine k_m0 ?_ | refine k_cnt ?_ | refine k_min2 ?_ | refine k_eqB ?_ | refine k_neB ?_ | refine k_slT ?_ | refine k_slL' ?_ | refine k_slC ?_) | ((with_reducible apply k_v); rfl) | ((with_reducible refine k_bnd ?_ ?_); (first | omega | (simp; omega) | skip)) | ((with_reducible refine And.intro ?_ ?_); (first | rfl | exact Nat.le_of_ble_eq_true rfl | omega | (simp; done))) | ((with_reducible apply k_exe); rfl) | ((with_reducible first | apply k_condT | apply k_aug | apply k_lenO | apply k_tupO | apply k_isi | apply k_is | apply k_isn | apply k_ixT | apply k_ixL); rfl) | ((with_reducible apply k_condF); rfl) | ((with_reducible first | apply k_ixO | apply k_putI); rfl; rfl) | ((with_reducible first | apply k_lenS | apply k_mod | apply k_addS | apply k_mulI | apply k_addT | apply k_rep); (first | omega | (simp; omega) | (with_reducible assumption) | decide))))
      refine k_opt (d := .bl (ds.all fun d => (ms n d).1)) ?_ ?_
      · have := bls_map (f := fun d => (ms n d).1) ds
        rw [gLb_lst]
        simp only [List.map_map, Function.comp_def]
        rw [show (fun x => cmp 0 (mD (ms n x))) = fun c => D.bl (ms n c).1 from rfl, this]
        simp [DL.allB]
      (repeat (first | (with_reducible first | refine k_seq ?_ | refine k_set ?_ | refine k_ret ?_ | refine k_c ?_ | refine k_call ?_ | refine k_aC ?_ | refine k_aN ?_ | refine k_2 ?_ | refine k_1 ?_ | refine k_tOf ?_ | refine k_sIf ?_ | refine k_B ?_ | refine k_tup ?_ | refine k_lst ?_ | refine k_new ?_ | refine k_addI ?_ | refine k_subI ?_ | refine k_eqI ?_ | refine k_neI ?_ | refine k_ltI ?_ | refine k_leI ?_ | refine k_gtI ?_ | refine k_geI ?_ | refine k_eqS ?_ | refine k_neS ?_ | refine k_for ?_ | refine k_forR ?_ | refine k_forG ?_ | refine k_pass ?_ | refine k_ex ?_ | refine k_retN ?_ | refine k_brk ?_ | refine k_cont ?_ | refine k_asg ?_ | refine k_setI ?_ | refine k_sl2 ?_ | refine k_slL ?_ | refine k_slH ?_ | refine k_app ?_ | refine k_ext ?_ | refine k_bk ?_ | refine k_no ?_ | refine k_tNo ?_ | refine k_tYs ?_ | refine k_if ?_ | refine k_gc ?_ | refine k_3B ?_ | refine k_lenT ?_ | refine k_lenL ?_ | refine k_lenC ?_ | refine k_tupT ?_ | refine k_tupL ?_ | refine k_lstL ?_ | refine k_lstC ?_ | refine k_lstT ?_ | refine k_ltS ?_ | refine k_m1 ?_ | refine k_m0 ?_ | refine k_cnt ?_ | refine k_min2 ?_ | refine k_eqB ?_ | refine k_neB ?_ | refine k_slT ?_ | refine k_slL' ?_ | refine k_slC ?_) | ((with_reducible apply k_v); rfl) | ((with_reducible refine k_bnd ?_ ?_); (first | omega | (simp; omega) | skip)) | ((with_reducible refine And.intro ?_ ?_); (first | rfl | exact Nat.le_of_ble_eq_true rfl | omega | (simp; done))) | ((with_reducible apply k_exe); rfl) | ((with_reducible first | apply k_condT | apply k_aug | apply k_lenO | apply k_tupO | apply k_isi | apply k_is | apply k_isn | apply k_ixT | apply k_ixL); rfl) | ((with_reducible apply k_condF); rfl) | ((with_reducible first | apply k_ixO | apply k_putI); rfl; rfl) | ((with_reducible first | apply k_lenS | apply k_mod | apply k_addS | apply k_mulI | apply k_addT | apply k_rep); (first | omega | (simp; omega) | (with_reducible assumption) | decide))))
      refine k_lcMap (f := cmp 1) ?_
      (repeat (first | (with_reducible first | refine k_seq ?_ | refine k_set ?_ | refine k_ret ?_ | refine k_c ?_ | refine k_call ?_ | refine k_aC ?_ | refine k_aN ?_ | refine k_2 ?_ | refine k_1 ?_ | refine k_tOf ?_ | refine k_sIf ?_ | refine k_B ?_ | refine k_tup ?_ | refine k_lst ?_ | refine k_new ?_ | refine k_addI ?_ | refine k_subI ?_ | refine k_eqI ?_ | refine k_neI ?_ | refine k_ltI ?_ | refine k_leI ?_ | refine k_gtI ?_ | refine k_geI ?_ | refine k_eqS ?_ | refine k_neS ?_ | refine k_for ?_ | refine k_forR ?_ | refine k_forG ?_ | refine k_pass ?_ | refine k_ex ?_ | refine k_retN ?_ | refine k_brk ?_ | refine k_cont ?_ | refine k_asg ?_ | refine k_setI ?_ | refine k_sl2 ?_ | refine k_slL ?_ | refine k_slH ?_ | refine k_app ?_ | refine k_ext ?_ | refine k_bk ?_ | refine k_no ?_ | refine k_tNo ?_ | refine k_tYs ?_ | refine k_if ?_ | refine k_gc ?_ | refine k_3B ?_ | refine k_lenT ?_ | refine k_lenL ?_ | refine k_lenC ?_ | refine k_tupT ?_ | refine k_tupL ?_ | refine k_lstL ?_ | refine k_lstC ?_ | refine k_lstT ?_ | refine k_ltS ?_ | refine k_m1 ?_ | refine k_m0 ?_ | refine k_cnt ?_ | refine k_min2 ?_ | refine k_eqB ?_ | refine k_neB ?_ | refine k_slT ?_ | refine k_slL' ?_ | refine k_slC ?_) | ((with_reducible apply k_v); rfl) | ((with_reducible refine k_bnd ?_ ?_); (first | omega | (simp; omega) | skip)) | ((with_reducible refine And.intro ?_ ?_); (first | rfl | exact Nat.le_of_ble_eq_true rfl | omega | (simp; done))) | ((with_reducible apply k_exe); rfl) | ((with_reducible first | apply k_condT | apply k_aug | apply k_lenO | apply k_tupO | apply k_isi | apply k_is | apply k_isn | apply k_ixT | apply k_ixL); rfl) | ((with_reducible apply k_condF); rfl) | ((with_reducible first | apply k_ixO | apply k_putI); rfl; rfl) | ((with_reducible first | apply k_lenS | apply k_mod | apply k_addS | apply k_mulI | apply k_addT | apply k_rep); (first | omega | (simp; omega) | (with_reducible assumption) | decide))))
      refine ⟨by simpa using (by omega : ds.length ≤ 16777216), fun z hz => ?_, ?_⟩
      · obtain ⟨y, hy, rfl⟩ := List.mem_map.mp hz
        refine ⟨_, rfl, ?_⟩
        (repeat (first | (with_reducible first | refine k_seq ?_ | refine k_set ?_ | refine k_ret ?_ | refine k_c ?_ | refine k_call ?_ | refine k_aC ?_ | refine k_aN ?_ | refine k_2 ?_ | refine k_1 ?_ | refine k_tOf ?_ | refine k_sIf ?_ | refine k_B ?_ | refine k_tup ?_ | refine k_lst ?_ | refine k_new ?_ | refine k_addI ?_ | refine k_subI ?_ | refine k_eqI ?_ | refine k_neI ?_ | refine k_ltI ?_ | refine k_leI ?_ | refine k_gtI ?_ | refine k_geI ?_ | refine k_eqS ?_ | refine k_neS ?_ | refine k_for ?_ | refine k_forR ?_ | refine k_forG ?_ | refine k_pass ?_ | refine k_ex ?_ | refine k_retN ?_ | refine k_brk ?_ | refine k_cont ?_ | refine k_asg ?_ | refine k_setI ?_ | refine k_sl2 ?_ | refine k_slL ?_ | refine k_slH ?_ | refine k_app ?_ | refine k_ext ?_ | refine k_bk ?_ | refine k_no ?_ | refine k_tNo ?_ | refine k_tYs ?_ | refine k_if ?_ | refine k_gc ?_ | refine k_3B ?_ | refine k_lenT ?_ | refine k_lenL ?_ | refine k_lenC ?_ | refine k_tupT ?_ | refine k_tupL ?_ | refine k_lstL ?_ | refine k_lstC ?_ | refine k_lstT ?_ | refine k_ltS ?_ | refine k_m1 ?_ | refine k_m0 ?_ | refine k_cnt ?_ | refine k_min2 ?_ | refine k_eqB ?_ | refine k_neB ?_ | refine k_slT ?_ | refine k_slL' ?_ | refine k_slC ?_) | ((with_reducible apply k_v); rfl) | ((with_reducible refine k_bnd ?_ ?_); (first | omega | (simp; omega) | skip)) | ((with_reducible refine And.intro ?_ ?_); (first | rfl | exact Nat.le_of_ble_eq_true rfl | omega | (simp; done))) | ((with_reducible apply k_exe); rfl) | ((with_reducible first | apply k_condT | apply k_aug | apply k_lenO | apply k_tupO | apply k_isi | apply k_is | apply k_isn | apply k_ixT | apply k_ixL); rfl) | ((with_reducible apply k_condF); rfl) | ((with_reducible first | apply k_ixO | apply k_putI); rfl; rfl) | ((with_reducible first | apply k_lenS | apply k_mod | apply k_addS | apply k_mulI | apply k_addT | apply k_rep); (first | omega | (simp; omega) | (with_reducible assumption) | decide))))
        exact k_ixT (ds := [.bl (ms n y).1, .int (ms n y).2.1, .int (ms n y).2.2]) rfl ⟨rfl, rfl⟩
      (repeat (first | (with_reducible first | refine k_seq ?_ | refine k_set ?_ | refine k_ret ?_ | refine k_c ?_ | refine k_call ?_ | refine k_aC ?_ | refine k_aN ?_ | refine k_2 ?_ | refine k_1 ?_ | refine k_tOf ?_ | refine k_sIf ?_ | refine k_B ?_ | refine k_tup ?_ | refine k_lst ?_ | refine k_new ?_ | refine k_addI ?_ | refine k_subI ?_ | refine k_eqI ?_ | refine k_neI ?_ | refine k_ltI ?_ | refine k_leI ?_ | refine k_gtI ?_ | refine k_geI ?_ | refine k_eqS ?_ | refine k_neS ?_ | refine k_for ?_ | refine k_forR ?_ | refine k_forG ?_ | refine k_pass ?_ | refine k_ex ?_ | refine k_retN ?_ | refine k_brk ?_ | refine k_cont ?_ | refine k_asg ?_ | refine k_setI ?_ | refine k_sl2 ?_ | refine k_slL ?_ | refine k_slH ?_ | refine k_app ?_ | refine k_ext ?_ | refine k_bk ?_ | refine k_no ?_ | refine k_tNo ?_ | refine k_tYs ?_ | refine k_if ?_ | refine k_gc ?_ | refine k_3B ?_ | refine k_lenT ?_ | refine k_lenL ?_ | refine k_lenC ?_ | refine k_tupT ?_ | refine k_tupL ?_ | refine k_lstL ?_ | refine k_lstC ?_ | refine k_lstT ?_ | refine k_ltS ?_ | refine k_m1 ?_ | refine k_m0 ?_ | refine k_cnt ?_ | refine k_min2 ?_ | refine k_eqB ?_ | refine k_neB ?_ | refine k_slT ?_ | refine k_slL' ?_ | refine k_slC ?_) | ((with_reducible apply k_v); rfl) | ((with_reducible refine k_bnd ?_ ?_); (first | omega | (simp; omega) | skip)) | ((with_reducible refine And.intro ?_ ?_); (first | rfl | exact Nat.le_of_ble_eq_true rfl | omega | (simp; done))) | ((with_reducible apply k_exe); rfl) | ((with_reducible first | apply k_condT | apply k_aug | apply k_lenO | apply k_tupO | apply k_isi | apply k_is | apply k_isn | apply k_ixT | apply k_ixL); rfl) | ((with_reducible apply k_condF); rfl) | ((with_reducible first | apply k_ixO | apply k_putI); rfl; rfl) | ((with_reducible first | apply k_lenS | apply k_mod | apply k_addS | apply k_mulI | apply k_addT | apply k_rep); (first | omega | (simp; omega) | (with_reducible assumption) | decide))))
      refine k_opt (d := .int (ds.map fun d => (ms n d).2.1).sum) ?_ ?_
      · have := intL_map (f := fun d => (ms n d).2.1) ds
        simp only [gSum, view_lst, List.map_map, Function.comp_def]
        rw [show (fun x => cmp 1 (mD (ms n x))) = fun c => D.int (ms n c).2.1 from rfl, this]
        rfl
      (repeat (first | (with_reducible first | refine k_seq ?_ | refine k_set ?_ | refine k_ret ?_ | refine k_c ?_ | refine k_call ?_ | refine k_aC ?_ | refine k_aN ?_ | refine k_2 ?_ | refine k_1 ?_ | refine k_tOf ?_ | refine k_sIf ?_ | refine k_B ?_ | refine k_tup ?_ | refine k_lst ?_ | refine k_new ?_ | refine k_addI ?_ | refine k_subI ?_ | refine k_eqI ?_ | refine k_neI ?_ | refine k_ltI ?_ | refine k_leI ?_ | refine k_gtI ?_ | refine k_geI ?_ | refine k_eqS ?_ | refine k_neS ?_ | refine k_for ?_ | refine k_forR ?_ | refine k_forG ?_ | refine k_pass ?_ | refine k_ex ?_ | refine k_retN ?_ | refine k_brk ?_ | refine k_cont ?_ | refine k_asg ?_ | refine k_setI ?_ | refine k_sl2 ?_ | refine k_slL ?_ | refine k_slH ?_ | refine k_app ?_ | refine k_ext ?_ | refine k_bk ?_ | refine k_no ?_ | refine k_tNo ?_ | refine k_tYs ?_ | refine k_if ?_ | refine k_gc ?_ | refine k_3B ?_ | refine k_lenT ?_ | refine k_lenL ?_ | refine k_lenC ?_ | refine k_tupT ?_ | refine k_tupL ?_ | refine k_lstL ?_ | refine k_lstC ?_ | refine k_lstT ?_ | refine k_ltS ?_ | refine k_m1 ?_ | refine k_m0 ?_ | refine k_cnt ?_ | refine k_min2 ?_ | refine k_eqB ?_ | refine k_neB ?_ | refine k_slT ?_ | refine k_slL' ?_ | refine k_slC ?_) | ((with_reducible apply k_v); rfl) | ((with_reducible refine k_bnd ?_ ?_); (first | omega | (simp; omega) | skip)) | ((with_reducible refine And.intro ?_ ?_); (first | rfl | exact Nat.le_of_ble_eq_true rfl | omega | (simp; done))) | ((with_reducible apply k_exe); rfl) | ((with_reducible first | apply k_condT | apply k_aug | apply k_lenO | apply k_tupO | apply k_isi | apply k_is | apply k_isn | apply k_ixT | apply k_ixL); rfl) | ((with_reducible apply k_condF); rfl) | ((with_reducible first | apply k_ixO | apply k_putI); rfl; rfl) | ((with_reducible first | apply k_lenS | apply k_mod | apply k_addS | apply k_mulI | apply k_addT | apply k_rep); (first | omega | (simp; omega) | (with_reducible assumption) | decide))))
      refine k_lcMap (f := cmp 2) ?_
      (repeat (first | (with_reducible first | refine k_seq ?_ | refine k_set ?_ | refine k_ret ?_ | refine k_c ?_ | refine k_call ?_ | refine k_aC ?_ | refine k_aN ?_ | refine k_2 ?_ | refine k_1 ?_ | refine k_tOf ?_ | refine k_sIf ?_ | refine k_B ?_ | refine k_tup ?_ | refine k_lst ?_ | refine k_new ?_ | refine k_addI ?_ | refine k_subI ?_ | refine k_eqI ?_ | refine k_neI ?_ | refine k_ltI ?_ | refine k_leI ?_ | refine k_gtI ?_ | refine k_geI ?_ | refine k_eqS ?_ | refine k_neS ?_ | refine k_for ?_ | refine k_forR ?_ | refine k_forG ?_ | refine k_pass ?_ | refine k_ex ?_ | refine k_retN ?_ | refine k_brk ?_ | refine k_cont ?_ | refine k_asg ?_ | refine k_setI ?_ | refine k_sl2 ?_ | refine k_slL ?_ | refine k_slH ?_ | refine k_app ?_ | refine k_ext ?_ | refine k_bk ?_ | refine k_no ?_ | refine k_tNo ?_ | refine k_tYs ?_ | refine k_if ?_ | refine k_gc ?_ | refine k_3B ?_ | refine k_lenT ?_ | refine k_lenL ?_ | refine k_lenC ?_ | refine k_tupT ?_ | refine k_tupL ?_ | refine k_lstL ?_ | refine k_lstC ?_ | refine k_lstT ?_ | refine k_ltS ?_ | refine k_m1 ?_ | refine k_m0 ?_ | refine k_cnt ?_ | refine k_min2 ?_ | refine k_eqB ?_ | refine k_neB ?_ | refine k_slT ?_ | refine k_slL' ?_ | refine k_slC ?_) | ((with_reducible apply k_v); rfl) | ((with_reducible refine k_bnd ?_ ?_); (first | omega | (simp; omega) | skip)) | ((with_reducible refine And.intro ?_ ?_); (first | rfl | exact Nat.le_of_ble_eq_true rfl | omega | (simp; done))) | ((with_reducible apply k_exe); rfl) | ((with_reducible first | apply k_condT | apply k_aug | apply k_lenO | apply k_tupO | apply k_isi | apply k_is | apply k_isn | apply k_ixT | apply k_ixL); rfl) | ((with_reducible apply k_condF); rfl) | ((with_reducible first | apply k_ixO | apply k_putI); rfl; rfl) | ((with_reducible first | apply k_lenS | apply k_mod | apply k_addS | apply k_mulI | apply k_addT | apply k_rep); (first | omega | (simp; omega) | (with_reducible assumption) | decide))))
      refine ⟨by simpa using (by omega : ds.length ≤ 16777216), fun z hz => ?_, ?_⟩
      · obtain ⟨y, hy, rfl⟩ := List.mem_map.mp hz
        refine ⟨_, rfl, ?_⟩
        (repeat (first | (with_reducible first | refine k_seq ?_ | refine k_set ?_ | refine k_ret ?_ | refine k_c ?_ | refine k_call ?_ | refine k_aC ?_ | refine k_aN ?_ | refine k_2 ?_ | refine k_1 ?_ | refine k_tOf ?_ | refine k_sIf ?_ | refine k_B ?_ | refine k_tup ?_ | refine k_lst ?_ | refine k_new ?_ | refine k_addI ?_ | refine k_subI ?_ | refine k_eqI ?_ | refine k_neI ?_ | refine k_ltI ?_ | refine k_leI ?_ | refine k_gtI ?_ | refine k_geI ?_ | refine k_eqS ?_ | refine k_neS ?_ | refine k_for ?_ | refine k_forR ?_ | refine k_forG ?_ | refine k_pass ?_ | refine k_ex ?_ | refine k_retN ?_ | refine k_brk ?_ | refine k_cont ?_ | refine k_asg ?_ | refine k_setI ?_ | refine k_sl2 ?_ | refine k_slL ?_ | refine k_slH ?_ | refine k_app ?_ | refine k_ext ?_ | refine k_bk ?_ | refine k_no ?_ | refine k_tNo ?_ | refine k_tYs ?_ | refine k_if ?_ | refine k_gc ?_ | refine k_3B ?_ | refine k_lenT ?_ | refine k_lenL ?_ | refine k_lenC ?_ | refine k_tupT ?_ | refine k_tupL ?_ | refine k_lstL ?_ | refine k_lstC ?_ | refine k_lstT ?_ | refine k_ltS ?_ | refine k_m1 ?_ | refine k_m0 ?_ | refine k_cnt ?_ | refine k_min2 ?_ | refine k_eqB ?_ | refine k_neB ?_ | refine k_slT ?_ | refine k_slL' ?_ | refine k_slC ?_) | ((with_reducible apply k_v); rfl) | ((with_reducible refine k_bnd ?_ ?_); (first | omega | (simp; omega) | skip)) | ((with_reducible refine And.intro ?_ ?_); (first | rfl | exact Nat.le_of_ble_eq_true rfl | omega | (simp; done))) | ((with_reducible apply k_exe); rfl) | ((with_reducible first | apply k_condT | apply k_aug | apply k_lenO | apply k_tupO | apply k_isi | apply k_is | apply k_isn | apply k_ixT | apply k_ixL); rfl) | ((with_reducible apply k_condF); rfl) | ((with_reducible first | apply k_ixO | apply k_putI); rfl; rfl) | ((with_reducible first | apply k_lenS | apply k_mod | apply k_addS | apply k_mulI | apply k_addT | apply k_rep); (first | omega | (simp; omega) | (with_reducible assumption) | decide))))
        exact k_ixT (ds := [.bl (ms n y).1, .int (ms n y).2.1, .int (ms n y).2.2]) rfl ⟨rfl, rfl⟩
      (repeat (first | (with_reducible first | refine k_seq ?_ | refine k_set ?_ | refine k_ret ?_ | refine k_c ?_ | refine k_call ?_ | refine k_aC ?_ | refine k_aN ?_ | refine k_2 ?_ | refine k_1 ?_ | refine k_tOf ?_ | refine k_sIf ?_ | refine k_B ?_ | refine k_tup ?_ | refine k_lst ?_ | refine k_new ?_ | refine k_addI ?_ | refine k_subI ?_ | refine k_eqI ?_ | refine k_neI ?_ | refine k_ltI ?_ | refine k_leI ?_ | refine k_gtI ?_ | refine k_geI ?_ | refine k_eqS ?_ | refine k_neS ?_ | refine k_for ?_ | refine k_forR ?_ | refine k_forG ?_ | refine k_pass ?_ | refine k_ex ?_ | refine k_retN ?_ | refine k_brk ?_ | refine k_cont ?_ | refine k_asg ?_ | refine k_setI ?_ | refine k_sl2 ?_ | refine k_slL ?_ | refine k_slH ?_ | refine k_app ?_ | refine k_ext ?_ | refine k_bk ?_ | refine k_no ?_ | refine k_tNo ?_ | refine k_tYs ?_ | refine k_if ?_ | refine k_gc ?_ | refine k_3B ?_ | refine k_lenT ?_ | refine k_lenL ?_ | refine k_lenC ?_ | refine k_tupT ?_ | refine k_tupL ?_ | refine k_lstL ?_ | refine k_lstC ?_ | refine k_lstT ?_ | refine k_ltS ?_ | refine k_m1 ?_ | refine k_m0 ?_ | refine k_cnt ?_ | refine k_min2 ?_ | refine k_eqB ?_ | refine k_neB ?_ | refine k_slT ?_ | refine k_slL' ?_ | refine k_slC ?_) | ((with_reducible apply k_v); rfl) | ((with_reducible refine k_bnd ?_ ?_); (first | omega | (simp; omega) | skip)) | ((with_reducible refine And.intro ?_ ?_); (first | rfl | exact Nat.le_of_ble_eq_true rfl | omega | (simp; done))) | ((with_reducible apply k_exe); rfl) | ((with_reducible first | apply k_condT | apply k_aug | apply k_lenO | apply k_tupO | apply k_isi | apply k_is | apply k_isn | apply k_ixT | apply k_ixL); rfl) | ((with_reducible apply k_condF); rfl) | ((with_reducible first | apply k_ixO | apply k_putI); rfl; rfl) | ((with_reducible first | apply k_lenS | apply k_mod | apply k_addS | apply k_mulI | apply k_addT | apply k_rep); (first | omega | (simp; omega) | (with_reducible assumption) | decide))))
      refine k_opt (d := .int (maxD 0 (ds.map fun d => (ms n d).2.2))) ?_ ?_
      · have := intL_map (f := fun d => (ms n d).2.2) ds
        simp only [gMaxD, view_lst, List.map_map, Function.comp_def]
        rw [show (fun x => cmp 2 (mD (ms n x))) = fun c => D.int (ms n c).2.2 from rfl, this]
        rfl
      (repeat (first | (with_reducible first | refine k_seq ?_ | refine k_set ?_ | refine k_ret ?_ | refine k_c ?_ | refine k_call ?_ | refine k_aC ?_ | refine k_aN ?_ | refine k_2 ?_ | refine k_1 ?_ | refine k_tOf ?_ | refine k_sIf ?_ | refine k_B ?_ | refine k_tup ?_ | refine k_lst ?_ | refine k_new ?_ | refine k_addI ?_ | refine k_subI ?_ | refine k_eqI ?_ | refine k_neI ?_ | refine k_ltI ?_ | refine k_leI ?_ | refine k_gtI ?_ | refine k_geI ?_ | refine k_eqS ?_ | refine k_neS ?_ | refine k_for ?_ | refine k_forR ?_ | refine k_forG ?_ | refine k_pass ?_ | refine k_ex ?_ | refine k_retN ?_ | refine k_brk ?_ | refine k_cont ?_ | refine k_asg ?_ | refine k_setI ?_ | refine k_sl2 ?_ | refine k_slL ?_ | refine k_slH ?_ | refine k_app ?_ | refine k_ext ?_ | refine k_bk ?_ | refine k_no ?_ | refine k_tNo ?_ | refine k_tYs ?_ | refine k_if ?_ | refine k_gc ?_ | refine k_3B ?_ | refine k_lenT ?_ | refine k_lenL ?_ | refine k_lenC ?_ | refine k_tupT ?_ | refine k_tupL ?_ | refine k_lstL ?_ | refine k_lstC ?_ | refine k_lstT ?_ | refine k_ltS ?_ | refine k_m1 ?_ | refine k_m0 ?_ | refine k_cnt ?_ | refine k_min2 ?_ | refine k_eqB ?_ | refine k_neB ?_ | refine k_slT ?_ | refine k_slL' ?_ | refine k_slC ?_) | ((with_reducible apply k_v); rfl) | ((with_reducible refine k_bnd ?_ ?_); (first | omega | (simp; omega) | skip)) | ((with_reducible refine And.intro ?_ ?_); (first | rfl | exact Nat.le_of_ble_eq_true rfl | omega | (simp; done))) | ((with_reducible apply k_exe); rfl) | ((with_reducible first | apply k_condT | apply k_aug | apply k_lenO | apply k_tupO | apply k_isi | apply k_is | apply k_isn | apply k_ixT | apply k_ixL); rfl) | ((with_reducible apply k_condF); rfl) | ((with_reducible first | apply k_ixO | apply k_putI); rfl; rfl) | ((with_reducible first | apply k_lenS | apply k_mod | apply k_addS | apply k_mulI | apply k_addT | apply k_rep); (first | omega | (simp; omega) | (with_reducible assumption) | decide))))
      exact h
    | _ =>
      (repeat (first | (with_reducible first | refine k_seq ?_ | refine k_set ?_ | refine k_ret ?_ | refine k_c ?_ | refine k_call ?_ | refine k_aC ?_ | refine k_aN ?_ | refine k_2 ?_ | refine k_1 ?_ | refine k_tOf ?_ | refine k_sIf ?_ | refine k_B ?_ | refine k_tup ?_ | refine k_lst ?_ | refine k_new ?_ | refine k_addI ?_ | refine k_subI ?_ | refine k_eqI ?_ | refine k_neI ?_ | refine k_ltI ?_ | refine k_leI ?_ | refine k_gtI ?_ | refine k_geI ?_ | refine k_eqS ?_ | refine k_neS ?_ | refine k_for ?_ | refine k_forR ?_ | refine k_forG ?_ | refine k_pass ?_ | refine k_ex ?_ | refine k_retN ?_ | refine k_brk ?_ | refine k_cont ?_ | refine k_asg ?_ | refine k_setI ?_ | refine k_sl2 ?_ | refine k_slL ?_ | refine k_slH ?_ | refine k_app ?_ | refine k_ext ?_ | refine k_bk ?_ | refine k_no ?_ | refine k_tNo ?_ | refine k_tYs ?_ | refine k_if ?_ | refine k_gc ?_ | refine k_3B ?_ | refine k_lenT ?_ | refine k_lenL ?_ | refine k_lenC ?_ | refine k_tupT ?_ | refine k_tupL ?_ | refine k_lstL ?_ | refine k_lstC ?_ | refine k_lstT ?_ | refine k_ltS ?_ | refine k_m1 ?_ | refine k_m0 ?_ | refine k_cnt ?_ | refine k_min2 ?_ | refine k_eqB ?_ | refine k_neB ?_ | refine k_slT ?_ | refine k_slL' ?_ | refine k_slC ?_) | ((with_reducible apply k_v); rfl) | ((with_reducible refine k_bnd ?_ ?_); (first | omega | (simp; omega) | skip)) | ((with_reducible refine And.intro ?_ ?_); (first | rfl | exact Nat.le_of_ble_eq_true rfl | omega | (simp; done))) | ((with_reducible apply k_exe); rfl) | ((with_reducible first | apply k_condT | apply k_aug | apply k_lenO | apply k_tupO | apply k_isi | apply k_is | apply k_isn | apply k_ixT | apply k_ixL); rfl) | ((with_reducible apply k_condF); rfl) | ((with_reducible first | apply k_ixO | apply k_putI); rfl; rfl) | ((with_reducible first | apply k_lenS | apply k_mod | apply k_addS | apply k_mulI | apply k_addT | apply k_rep); (first | omega | (simp; omega) | (with_reducible assumption) | decide))))
      exact h

/-- is it a tree? -/
def treeB (d : D) : Bool := (ms 59 d).1 && (decide ((ms 59 d).2.1 ≤ 600) && decide ((ms 59 d).2.2 ≤ 12))
theorem law_is_tree_s {d : D} (hd : wf 59 d) {S : Sto} {Q : QE} {X : QX} (h : Q (.bl (treeB d)) S) : OkE (callS m__law_is_tree [d] S) Q X := by
  refine OkE_call0 (by simp [wf_cl hd]) ?_
  unfold m__law_is_tree b__law_is_tree
  refine k_fn0 ?_
  (repeat (first | (with_reducible first | refine k_seq ?_ | refine k_set ?_ | refine k_ret ?_ | refine k_c ?_ | refine k_call ?_ | refine k_aC ?_ | refine k_aN ?_ | refine k_2 ?_ | refine k_1 ?_ | refine k_tOf ?_ | refine k_sIf ?_ | refine k_B ?_ | refine k_tup ?_ | refine k_lst ?_ | refine k_new ?_ | refine k_addI ?_ | refine k_subI ?_ | refine k_eqI ?_ | refine k_neI ?_ | refine k_ltI ?_ | refine k_leI ?_ | refine k_gtI ?_ | refine k_geI ?_ | refine k_eqS ?_ | refine k_neS ?_ | refine k_for ?_ | refine k_forR ?_ | refine k_forG ?_ | refine k_pass ?_ | refine k_ex ?_ | refine k_retN ?_ | refine k_brk ?_ | refine k_cont ?_ | refine k_asg ?_ | refine k_setI ?_ | refine k_sl2 ?_ | refine k_slL ?_ | refine k_slH ?_ | refine k_app ?_ | refine k_ext ?_ | refine k_bk ?_ | refine k_no ?_ | refine k_tNo ?_ | refine k_tYs ?_ | refine k_if ?_ | refine k_gc ?_ | refine k_3B ?_ | refine k_lenT ?_ | refine k_lenL ?_ | refine k_lenC ?_ | refine k_tupT ?_ | refine k_tupL ?_ | refine k_lstL ?_ | refine k_lstC ?_ | refine k_lstT ?_ | refine k_ltS ?_ | refine k_m1 ?_ | refine k_m0 ?_ | refine k_cnt ?_ | refine k_min2 ?_ | refine k_eqB ?_ | refine k_neB ?_ | refine k_slT ?_ | refine k_slL' ?_ | refine k_slC ?_) | ((with_reducible apply k_v); rfl) | ((with_reducible refine k_bnd ?_ ?_); (first | omega | (simp; omega) | skip)) | ((with_reducible refine And.intro ?_ ?_); (first | rfl | exact Nat.le_of_ble_eq_true rfl | omega | (simp; done))) | ((with_reducible apply k_exe); rfl) | ((with_reducible first | apply k_condT | apply k_aug | apply k_lenO | apply k_tupO | apply k_isi | apply k_is | apply k_isn | apply k_ixT | apply k_ixL); rfl) | ((with_reducible apply k_condF); rfl) | ((with_reducible first | apply k_ixO | apply k_putI); rfl; rfl) | ((with_reducible first | apply k_lenS | apply k_mod | apply k_addS | apply k_mulI | apply k_addT | apply k_rep); (first | omega | (simp; omega) | (with_reducible assumption) | decide))))
  refine meas_s 59 d hd ?_
  refine ⟨_, rfl, ?_⟩
  (repeat (first | (with_reducible first | refine k_seq ?_ | refine k_set ?_ | refine k_ret ?_ | refine k_c ?_ | refine k_call ?_ | refine k_aC ?_ | refine k_aN ?_ | refine k_2 ?_ | refine k_1 ?_ | refine k_tOf ?_ | refine k_sIf ?_ | refine k_B ?_ | refine k_tup ?_ | refine k_lst ?_ | refine k_new ?_ | refine k_addI ?_ | refine k_subI ?_ | refine k_eqI ?_ | refine k_neI ?_ | refine k_ltI ?_ | refine k_leI ?_ | refine k_gtI ?_ | refine k_geI ?_ | refine k_eqS ?_ | refine k_neS ?_ | refine k_for ?_ | refine k_forR ?_ | refine k_forG ?_ | refine k_pass ?_ | refine k_ex ?_ | refine k_retN ?_ | refine k_brk ?_ | refine k_cont ?_ | refine k_asg ?_ | refine k_setI ?_ | refine k_sl2 ?_ | refine k_slL ?_ | refine k_slH ?_ | refine k_app ?_ | refine k_ext ?_ | refine k_bk ?_ | refine k_no ?_ | refine k_tNo ?_ | refine k_tYs ?_ | refine k_if ?_ | refine k_gc ?_ | refine k_3B ?_ | refine k_lenT ?_ | refine k_lenL ?_ | refine k_lenC ?_ | refine k_tupT ?_ | refine k_tupL ?_ | refine k_lstL ?_ | refine k_lstC ?_ | refine k_lstT ?_ | refine k_ltS ?_ | refine k_m1 ?_ | refine k_m0 ?_ | refine k_cnt ?_ | refine k_min2 ?_ | refine k_eqB ?_ | refine k_neB ?_ | refine k_slT ?_ | refine k_slL' ?_ | refine k_slC ?_) | ((with_reducible apply k_v); rfl) | ((with_reducible refine k_bnd ?_ ?_); (first | omega | (simp; omega) | skip)) | ((with_reducible refine And.intro ?_ ?_); (first | rfl | exact Nat.le_of_ble_eq_true rfl | omega | (simp; done))) | ((with_reducible apply k_exe); rfl) | ((with_reducible first | apply k_condT | apply k_aug | apply k_lenO | apply k_tupO | apply k_isi | apply k_is | apply k_isn | apply k_ixT | apply k_ixL); rfl) | ((with_reducible apply k_condF); rfl) | ((with_reducible first | apply k_ixO | apply k_putI); rfl; rfl) | ((with_reducible first | apply k_lenS | apply k_mod | apply k_addS | apply k_mulI | apply k_addT | apply k_rep); (first | omega | (simp; omega) | (with_reducible assumption) | decide))))
  refine k_anB ?_
  (repeat (first | (with_reducible first | refine k_seq ?_ | refine k_set ?_ | refine k_ret ?_ | refine k_c ?_ | refine k_call ?_ | refine k_aC ?_ | refine k_aN ?_ | refine k_2 ?_ | refine k_1 ?_ | refine k_tOf ?_ | refine k_sIf ?_ | refine k_B ?_ | refine k_tup ?_ | refine k_lst ?_ | refine k_new ?_ | refine k_addI ?_ | refine k_subI ?_ | refine k_eqI ?_ | refine k_neI ?_ | refine k_ltI ?_ | refine k_leI ?_ | refine k_gtI ?_ | refine k_geI ?_ | refine k_eqS ?_ | refine k_neS ?_ | refine k_for ?_ | refine k_forR ?_ | refine k_forG ?_ | refine k_pass ?_ | refine k_ex ?_ | refine k_retN ?_ | refine k_brk ?_ | refine k_cont ?_ | refine k_asg ?_ | refine k_setI ?_ | refine k_sl2 ?_ | refine k_slL ?_ | refine k_slH ?_ | refine k_app ?_ | refine k_ext ?_ | refine k_bk ?_ | refine k_no ?_ | refine k_tNo ?_ | refine k_tYs ?_ | refine k_if ?_ | refine k_gc ?_ | refine k_3B ?_ | refine k_lenT ?_ | refine k_lenL ?_ | refine k_lenC ?_ | refine k_tupT ?_ | refine k_tupL ?_ | refine k_lstL ?_ | refine k_lstC ?_ | refine k_lstT ?_ | refine k_ltS ?_ | refine k_m1 ?_ | refine k_m0 ?_ | refine k_cnt ?_ | refine k_min2 ?_ | refine k_eqB ?_ | refine k_neB ?_ | refine k_slT ?_ | refine k_slL' ?_ | refine k_slC ?_) | ((with_reducible apply k_v); rfl) | ((with_reducible refine k_bnd ?_ ?_); (first | omega | (simp; omega) | skip)) | ((with_reducible refine And.intro ?_ ?_); (first | rfl | exact Nat.le_of_ble_eq_true rfl | omega | (simp; done))) | ((with_reducible apply k_exe); rfl) | ((with_reducible first | apply k_condT | apply k_aug | apply k_lenO | apply k_tupO | apply k_isi | apply k_is | apply k_isn | apply k_ixT | apply k_ixL); rfl) | ((with_reducible apply k_condF); rfl) | ((with_reducible first | apply k_ixO | apply k_putI); rfl; rfl) | ((with_reducible first | apply k_lenS | apply k_mod | apply k_addS | apply k_mulI | apply k_addT | apply k_rep); (first | omega | (simp; omega) | (with_reducible assumption) | decide))))
  refine k_anB ?_
  (repeat (first | (with_reducible first | refine k_seq ?_ | refine k_set ?_ | refine k_ret ?_ | refine k_c ?_ | refine k_call ?_ | refine k_aC ?_ | refine k_aN ?_ | refine k_2 ?_ | refine k_1 ?_ | refine k_tOf ?_ | refine k_sIf ?_ | refine k_B ?_ | refine k_tup ?_ | refine k_lst ?_ | refine k_new ?_ | refine k_addI ?_ | refine k_subI ?_ | refine k_eqI ?_ | refine k_neI ?_ | refine k_ltI ?_ | refine k_leI ?_ | refine k_gtI ?_ | refine k_geI ?_ | refine k_eqS ?_ | refine k_neS ?_ | refine k_for ?_ | refine k_forR ?_ | refine k_forG ?_ | refine k_pass ?_ | refine k_ex ?_ | refine k_retN ?_ | refine k_brk ?_ | refine k_cont ?_ | refine k_asg ?_ | refine k_setI ?_ | refine k_sl2 ?_ | refine k_slL ?_ | refine k_slH ?_ | refine k_app ?_ | refine k_ext ?_ | refine k_bk ?_ | refine k_no ?_ | refine k_tNo ?_ | refine k_tYs ?_ | refine k_if ?_ | refine k_gc ?_ | refine k_3B ?_ | refine k_lenT ?_ | refine k_lenL ?_ | refine k_lenC ?_ | refine k_tupT ?_ | refine k_tupL ?_ | refine k_lstL ?_ | refine k_lstC ?_ | refine k_lstT ?_ | refine k_ltS ?_ | refine k_m1 ?_ | refine k_m0 ?_ | refine k_cnt ?_ | refine k_min2 ?_ | refine k_eqB ?_ | refine k_neB ?_ | refine k_slT ?_ | refine k_slL' ?_ | refine k_slC ?_) | ((with_reducible apply k_v); rfl) | ((with_reducible refine k_bnd ?_ ?_); (first | omega | (simp; omega) | skip)) | ((with_reducible refine And.intro ?_ ?_); (first | rfl | exact Nat.le_of_ble_eq_true rfl | omega | (simp; done))) | ((with_reducible apply k_exe); rfl) | ((with_reducible first | apply k_condT | apply k_aug | apply k_lenO | apply k_tupO | apply k_isi | apply k_is | apply k_isn | apply k_ixT | apply k_ixL); rfl) | ((with_reducible apply k_condF); rfl) | ((with_reducible first | apply k_ixO | apply k_putI); rfl; rfl) | ((with_reducible first | apply k_lenS | apply k_mod | apply k_addS | apply k_mulI | apply k_addT | apply k_rep); (first | omega | (simp; omega) | (with_reducible assumption) | decide))))
  exact h
/-! ### drawn trees -/
def tr : Nat → D → Prop
  | _, .str x => x.length ≤ 1000 ∧ Sg x
  | n + 1, .tup ds => ds.length ≤ 1000 ∧ ∀ d ∈ ds, tr n d
  | _, _ => False
theorem tr_wf : ∀ {n : Nat} {d : D}, tr n d → wf n d := by
  intro n
  induction n with
  | zero => intro d h; cases d <;> first | exact h.1 | exact h.elim
  | succ n ih =>
    intro d h
    cases d <;> first | exact h.1 | exact h.elim | exact ⟨h.1, fun d hd => ih (h.2 d hd)⟩
theorem tr_mono : ∀ {n m : Nat} {d : D}, tr n d → n ≤ m → tr m d := by
  intro n
  induction n with
  | zero => intro m d h _; cases d <;> first | exact h.elim | (cases m <;> exact h)
  | succ n ih =>
    intro m d h hm
    obtain ⟨m, rfl⟩ : ∃ k, m = k + 1 := ⟨m - 1, by omega⟩
    cases d <;> first | exact h.elim | exact ⟨h.1, fun d hd => ih (h.2 d hd) (by omega)⟩ | exact h
theorem wf_mono : ∀ {n m : Nat} {d : D}, wf n d → n ≤ m → wf m d := by
  intro n
  induction n with
  | zero => intro m d h _; cases d <;> first | exact h.elim | (cases m <;> exact h)
  | succ n ih =>
    intro m d h hm
    obtain ⟨m, rfl⟩ : ∃ k, m = k + 1 := ⟨m - 1, by omega⟩
    cases d <;> first | exact h.elim | exact ⟨h.1, fun d hd => ih (h.2 d hd) (by omega)⟩ | exact h
theorem tr_cl {n : Nat} {d : D} (h : tr n d) : cl d = true := wf_cl (tr_wf h)
theorem tr_pd : ∀ {n : Nat} {d : D}, tr n d → ∃ p, pd d = some p ∧ p.canLay0 = true ∧ p.depth ≤ n := by
  intro n
  induction n with
  | zero => intro d h; cases d <;> first | exact h.elim | exact ⟨_, rfl, h.2.ok, Nat.le_refl _⟩
  | succ n ih =>
    intro d h
    cases d with
    | str x => exact ⟨_, rfl, h.2.ok, Nat.zero_le _⟩
    | tup ds =>
      have : ∀ ds : List D, (∀ d ∈ ds, tr n d) → ∃ ps, pds ds = some ps ∧ PyData.canLayAll0 ps = true ∧ PyData.depthAll ps ≤ n := by
        intro ds
        induction ds with
        | nil => intro _; exact ⟨[], rfl, rfl, Nat.zero_le _⟩
        | cons d ds ih2 =>
          intro h
          obtain ⟨p, h1, h2, h3⟩ := ih (h d List.mem_cons_self)
          obtain ⟨ps, h4, h5, h6⟩ := ih2 fun z hz => h z (List.mem_cons_of_mem _ hz)
          refine ⟨p :: ps, by rw [pds, h1, h4], by simp only [PyData.canLayAll0, h2, h5]; rfl, ?_⟩
          simp only [PyData.depthAll]; omega
      obtain ⟨ps, h1, h2, h3⟩ := this ds h.2
      exact ⟨.tuple ps, by rw [pd, h1]; rfl, h2, by simp only [PyData.depth]; omega⟩
    | _ => exact h.elim
theorem eq_nil {n : Nat} {ds : List D} (h : tr n (.tup ds)) (hn : n ≤ 64) {S : Sto} : gEq S (.tup ds) (.tup []) = some (.bl ds.isEmpty) := by
  obtain ⟨p, h1, h2, h3⟩ := tr_pd h
  have h4 : SeqAt.shaped p = true := by unfold SeqAt.shaped; rw [h2, decide_eq_true (by omega)]; rfl
  have h5 : ∃ ps, p = .tuple ps ∧ (ps.isEmpty = ds.isEmpty) := by
    rw [pd] at h1
    cases q : pds ds with
    | none => rw [q] at h1; cases h1
    | some ps =>
      rw [q] at h1
      cases h1
      refine ⟨ps, rfl, ?_⟩
      cases ds with
      | nil => cases q; rfl
      | cons d ds =>
        rw [pds] at q
        split at q
        · cases q; rfl
        · cases q
  obtain ⟨ps, rfl, h6⟩ := h5
  have h7 : PyData.eqv (.tuple ps) (.tuple []) = ds.isEmpty := by
    rw [← h6]
    cases ps <;> simp [PyData.eqv, PyData.eqvAll]
  have h8 : SeqAt.shaped (.tuple []) = true := rfl
  simp [gEq, deq, fla, deq0, h1, h4, pd, pds, h7, h8]
theorem tree_s : ∀ (f : Nat) (deep : Nat), deep < f → ∀ {S : Sto} {k : Nat} {a b : Int} {Q : QE} {X : QX}, S[k]? = some (.lst [.int a, .int b]) → Pot a b → (∀ d a' b', tr (14 * deep) d → Pot a' b' → Q d (S.set k (.lst [.int a', .int b']))) → OkE (callS (m__law_tree f) [.obj k, .int deep] S) Q X := by
  intro f
  induction f with
  | zero => intro deep h; omega
  | succ f ih =>
    intro deep hf S k a b Q X hk p h
    refine OkE_callL hk rfl rfl rfl ?_
    simp only [List.map_cons, List.map_nil, mapO, List.idxOf_cons_self]
    show OkE (fnD 5 (b__law_tree (m__law_tree f)) _ _) _ _
    refine k_fnD ?_
    unfold b__law_tree
    (repeat (first | (with_reducible first | refine k_seq ?_ | refine k_set ?_ | refine k_ret ?_ | refine k_c ?_ | refine k_call ?_ | refine k_aC ?_ | refine k_aN ?_ | refine k_2 ?_ | refine k_1 ?_ | refine k_tOf ?_ | refine k_sIf ?_ | refine k_B ?_ | refine k_tup ?_ | refine k_lst ?_ | refine k_new ?_ | refine k_addI ?_ | refine k_subI ?_ | refine k_eqI ?_ | refine k_neI ?_ | refine k_ltI ?_ | refine k_leI ?_ | refine k_gtI ?_ | refine k_geI ?_ | refine k_eqS ?_ | refine k_neS ?_ | refine k_for ?_ | refine k_forR ?_ | refine k_forG ?_ | refine k_pass ?_ | refine k_ex ?_ | refine k_retN ?_ | refine k_brk ?_ | refine k_cont ?_ | refine k_asg ?_ | refine k_setI ?_ | refine k_sl2 ?_ | refine k_slL ?_ | refine k_slH ?_ | refine k_app ?_ | refine k_ext ?_ | refine k_bk ?_ | refine k_no ?_ | refine k_tNo ?_ | refine k_tYs ?_ | refine k_if ?_ | refine k_gc ?_ | refine k_3B ?_ | refine k_lenT ?_ | refine k_lenL ?_ | refine k_lenC ?_ | refine k_tupT ?_ | refine k_tupL ?_ | refine k_lstL ?_ | refine k_lstC ?_ | refine k_lstT ?_ | refine k_ltS ?_ | refine k_m1 ?_ | refine k_m0 ?_ | refine k_cnt ?_ | refine k_min2 ?_ | refine k_eqB ?_ | refine k_neB ?_ | refine k_slT ?_ | refine k_slL' ?_ | refine k_slC ?_) | ((with_reducible apply k_v); rfl) | ((with_reducible refine k_bnd ?_ ?_); (first | omega | (simp; omega) | skip)) | ((with_reducible refine And.intro ?_ ?_); (first | rfl | exact Nat.le_of_ble_eq_true rfl | omega | (simp; done))) | ((with_reducible apply k_exe); rfl) | ((with_reducible first | apply k_condT | apply k_aug | apply k_lenO | apply k_tupO | apply k_isi | apply k_is | apply k_isn | apply k_ixT | apply k_ixL); rfl) | ((with_reducible apply k_condF); rfl) | ((with_reducible first | apply k_ixO | apply k_putI); rfl; rfl) | ((with_reducible first | apply k_lenS | apply k_mod | apply k_addS | apply k_mulI | apply k_addT | apply k_rep); (first | omega | (simp; omega) | (with_reducible assumption) | decide))))
    refine take_s rfl p (by decide) (by decide) fun d1 a1 b1 l1 u1 p1 => ?_
    (repeat (first | (with_reducible first | refine k_seq ?_ | refine k_set ?_ | refine k_ret ?_ | refine k_c ?_ | refine k_call ?_ | refine k_aC ?_ | refine k_aN ?_ | refine k_2 ?_ | refine k_1 ?_ | refine k_tOf ?_ | refine k_sIf ?_ | refine k_B ?_ | refine k_tup ?_ | refine k_lst ?_ | refine k_new ?_ | refine k_addI ?_ | refine k_subI ?_ | refine k_eqI ?_ | refine k_neI ?_ | refine k_ltI ?_ | refine k_leI ?_ | refine k_gtI ?_ | refine k_geI ?_ | refine k_eqS ?_ | refine k_neS ?_ | refine k_for ?_ | refine k_forR ?_ | refine k_forG ?_ | refine k_pass ?_ | refine k_ex ?_ | refine k_retN ?_ | refine k_brk ?_ | refine k_cont ?_ | refine k_asg ?_ | refine k_setI ?_ | refine k_sl2 ?_ | refine k_slL ?_ | refine k_slH ?_ | refine k_app ?_ | refine k_ext ?_ | refine k_bk ?_ | refine k_no ?_ | refine k_tNo ?_ | refine k_tYs ?_ | refine k_if ?_ | refine k_gc ?_ | refine k_3B ?_ | refine k_lenT ?_ | refine k_lenL ?_ | refine k_lenC ?_ | refine k_tupT ?_ | refine k_tupL ?_ | refine k_lstL ?_ | refine k_lstC ?_ | refine k_lstT ?_ | refine k_ltS ?_ | refine k_m1 ?_ | refine k_m0 ?_ | refine k_cnt ?_ | refine k_min2 ?_ | refine k_eqB ?_ | refine k_neB ?_ | refine k_slT ?_ | refine k_slL' ?_ | refine k_slC ?_) | ((with_reducible apply k_v); rfl) | ((with_reducible refine k_bnd ?_ ?_); (first | omega | (simp; omega) | skip)) | ((with_reducible refine And.intro ?_ ?_); (first | rfl | exact Nat.le_of_ble_eq_true rfl | omega | (simp; done))) | ((with_reducible apply k_exe); rfl) | ((with_reducible first | apply k_condT | apply k_aug | apply k_lenO | apply k_tupO | apply k_isi | apply k_is | apply k_isn | apply k_ixT | apply k_ixL); rfl) | ((with_reducible apply k_condF); rfl) | ((with_reducible first | apply k_ixO | apply k_putI); rfl; rfl) | ((with_reducible first | apply k_lenS | apply k_mod | apply k_addS | apply k_mulI | apply k_addT | apply k_rep); (first | omega | (simp; omega) | (with_reducible assumption) | decide))))
    refine k_tOB ?_
    (repeat (first | (with_reducible first | refine k_seq ?_ | refine k_set ?_ | refine k_ret ?_ | refine k_c ?_ | refine k_call ?_ | refine k_aC ?_ | refine k_aN ?_ | refine k_2 ?_ | refine k_1 ?_ | refine k_tOf ?_ | refine k_sIf ?_ | refine k_B ?_ | refine k_tup ?_ | refine k_lst ?_ | refine k_new ?_ | refine k_addI ?_ | refine k_subI ?_ | refine k_eqI ?_ | refine k_neI ?_ | refine k_ltI ?_ | refine k_leI ?_ | refine k_gtI ?_ | refine k_geI ?_ | refine k_eqS ?_ | refine k_neS ?_ | refine k_for ?_ | refine k_forR ?_ | refine k_forG ?_ | refine k_pass ?_ | refine k_ex ?_ | refine k_retN ?_ | refine k_brk ?_ | refine k_cont ?_ | refine k_asg ?_ | refine k_setI ?_ | refine k_sl2 ?_ | refine k_slL ?_ | refine k_slH ?_ | refine k_app ?_ | refine k_ext ?_ | refine k_bk ?_ | refine k_no ?_ | refine k_tNo ?_ | refine k_tYs ?_ | refine k_if ?_ | refine k_gc ?_ | refine k_3B ?_ | refine k_lenT ?_ | refine k_lenL ?_ | refine k_lenC ?_ | refine k_tupT ?_ | refine k_tupL ?_ | refine k_lstL ?_ | refine k_lstC ?_ | refine k_lstT ?_ | refine k_ltS ?_ | refine k_m1 ?_ | refine k_m0 ?_ | refine k_cnt ?_ | refine k_min2 ?_ | refine k_eqB ?_ | refine k_neB ?_ | refine k_slT ?_ | refine k_slL' ?_ | refine k_slC ?_) | ((with_reducible apply k_v); rfl) | ((with_reducible refine k_bnd ?_ ?_); (first | omega | (simp; omega) | skip)) | ((with_reducible refine And.intro ?_ ?_); (first | rfl | exact Nat.le_of_ble_eq_true rfl | omega | (simp; done))) | ((with_reducible apply k_exe); rfl) | ((with_reducible first | apply k_condT | apply k_aug | apply k_lenO | apply k_tupO | apply k_isi | apply k_is | apply k_isn | apply k_ixT | apply k_ixL); rfl) | ((with_reducible apply k_condF); rfl) | ((with_reducible first | apply k_ixO | apply k_putI); rfl; rfl) | ((with_reducible first | apply k_lenS | apply k_mod | apply k_addS | apply k_mulI | apply k_addT | apply k_rep); (first | omega | (simp; omega) | (with_reducible assumption) | decide))))
    by_cases hc : (deep : Int) = 0 ∨ d1 < 3
    · refine k_condT (by simpa using hc) ?_
      (repeat (first | (with_reducible first | refine k_seq ?_ | refine k_set ?_ | refine k_ret ?_ | refine k_c ?_ | refine k_call ?_ | refine k_aC ?_ | refine k_aN ?_ | refine k_2 ?_ | refine k_1 ?_ | refine k_tOf ?_ | refine k_sIf ?_ | refine k_B ?_ | refine k_tup ?_ | refine k_lst ?_ | refine k_new ?_ | refine k_addI ?_ | refine k_subI ?_ | refine k_eqI ?_ | refine k_neI ?_ | refine k_ltI ?_ | refine k_leI ?_ | refine k_gtI ?_ | refine k_geI ?_ | refine k_eqS ?_ | refine k_neS ?_ | refine k_for ?_ | refine k_forR ?_ | refine k_forG ?_ | refine k_pass ?_ | refine k_ex ?_ | refine k_retN ?_ | refine k_brk ?_ | refine k_cont ?_ | refine k_asg ?_ | refine k_setI ?_ | refine k_sl2 ?_ | refine k_slL ?_ | refine k_slH ?_ | refine k_app ?_ | refine k_ext ?_ | refine k_bk ?_ | refine k_no ?_ | refine k_tNo ?_ | refine k_tYs ?_ | refine k_if ?_ | refine k_gc ?_ | refine k_3B ?_ | refine k_lenT ?_ | refine k_lenL ?_ | refine k_lenC ?_ | refine k_tupT ?_ | refine k_tupL ?_ | refine k_lstL ?_ | refine k_lstC ?_ | refine k_lstT ?_ | refine k_ltS ?_ | refine k_m1 ?_ | refine k_m0 ?_ | refine k_cnt ?_ | refine k_min2 ?_ | refine k_eqB ?_ | refine k_neB ?_ | refine k_slT ?_ | refine k_slL' ?_ | refine k_slC ?_) | ((with_reducible apply k_v); rfl) | ((with_reducible refine k_bnd ?_ ?_); (first | omega | (simp; omega) | skip)) | ((with_reducible refine And.intro ?_ ?_); (first | rfl | exact Nat.le_of_ble_eq_true rfl | omega | (simp; done))) | ((with_reducible apply k_exe); rfl) | ((with_reducible first | apply k_condT | apply k_aug | apply k_lenO | apply k_tupO | apply k_isi | apply k_is | apply k_isn | apply k_ixT | apply k_ixL); rfl) | ((with_reducible apply k_condF); rfl) | ((with_reducible first | apply k_ixO | apply k_putI); rfl; rfl) | ((with_reducible first | apply k_lenS | apply k_mod | apply k_addS | apply k_mulI | apply k_addT | apply k_rep); (first | omega | (simp; omega) | (with_reducible assumption) | decide))))
      refine text_s rfl p1 fun t a2 b2 ht p2 => ?_
      exact ⟨⟨rfl, rfl⟩, _, rfl, rfl, rfl, h _ _ _ (tr_mono (n := 0) ⟨by have := ht.len; omega, ht.sg⟩ (by omega)) p2⟩
    refine k_condF (by simpa using hc) ?_
    obtain ⟨dp, rfl⟩ : ∃ j, deep = j + 1 := ⟨deep - 1, by omega⟩
    have hdp : (((dp + 1 : Nat) : Int) - 1) = (dp : Int) := by omega
    (repeat (first | (with_reducible first | refine k_seq ?_ | refine k_set ?_ | refine k_ret ?_ | refine k_c ?_ | refine k_call ?_ | refine k_aC ?_ | refine k_aN ?_ | refine k_2 ?_ | refine k_1 ?_ | refine k_tOf ?_ | refine k_sIf ?_ | refine k_B ?_ | refine k_tup ?_ | refine k_lst ?_ | refine k_new ?_ | refine k_addI ?_ | refine k_subI ?_ | refine k_eqI ?_ | refine k_neI ?_ | refine k_ltI ?_ | refine k_leI ?_ | refine k_gtI ?_ | refine k_geI ?_ | refine k_eqS ?_ | refine k_neS ?_ | refine k_for ?_ | refine k_forR ?_ | refine k_forG ?_ | refine k_pass ?_ | refine k_ex ?_ | refine k_retN ?_ | refine k_brk ?_ | refine k_cont ?_ | refine k_asg ?_ | refine k_setI ?_ | refine k_sl2 ?_ | refine k_slL ?_ | refine k_slH ?_ | refine k_app ?_ | refine k_ext ?_ | refine k_bk ?_ | refine k_no ?_ | refine k_tNo ?_ | refine k_tYs ?_ | refine k_if ?_ | refine k_gc ?_ | refine k_3B ?_ | refine k_lenT ?_ | refine k_lenL ?_ | refine k_lenC ?_ | refine k_tupT ?_ | refine k_tupL ?_ | refine k_lstL ?_ | refine k_lstC ?_ | refine k_lstT ?_ | refine k_ltS ?_ | refine k_m1 ?_ | refine k_m0 ?_ | refine k_cnt ?_ | refine k_min2 ?_ | refine k_eqB ?_ | refine k_neB ?_ | refine k_slT ?_ | refine k_slL' ?_ | refine k_slC ?_) | ((with_reducible apply k_v); rfl) | ((with_reducible refine k_bnd ?_ ?_); (first | omega | (simp; omega) | skip)) | ((with_reducible refine And.intro ?_ ?_); (first | rfl | exact Nat.le_of_ble_eq_true rfl | omega | (simp; done))) | ((with_reducible apply k_exe); rfl) | ((with_reducible first | apply k_condT | apply k_aug | apply k_lenO | apply k_tupO | apply k_isi | apply k_is | apply k_isn | apply k_ixT | apply k_ixL); rfl) | ((with_reducible apply k_condF); rfl) | ((with_reducible first | apply k_ixO | apply k_putI); rfl; rfl) | ((with_reducible first | apply k_lenS | apply k_mod | apply k_addS | apply k_mulI | apply k_addT | apply k_rep); (first | omega | (simp; omega) | (with_reducible assumption) | decide))))
    refine k_dec (fun h6 => ?_) fun h6 => ?_
    · (repeat (first | (with_reducible first | refine k_seq ?_ | refine k_set ?_ | refine k_ret ?_ | refine k_c ?_ | refine k_call ?_ | refine k_aC ?_ | refine k_aN ?_ | refine k_2 ?_ | refine k_1 ?_ | refine k_tOf ?_ | refine k_sIf ?_ | refine k_B ?_ | refine k_tup ?_ | refine k_lst ?_ | refine k_new ?_ | refine k_addI ?_ | refine k_subI ?_ | refine k_eqI ?_ | refine k_neI ?_ | refine k_ltI ?_ | refine k_leI ?_ | refine k_gtI ?_ | refine k_geI ?_ | refine k_eqS ?_ | refine k_neS ?_ | refine k_for ?_ | refine k_forR ?_ | refine k_forG ?_ | refine k_pass ?_ | refine k_ex ?_ | refine k_retN ?_ | refine k_brk ?_ | refine k_cont ?_ | refine k_asg ?_ | refine k_setI ?_ | refine k_sl2 ?_ | refine k_slL ?_ | refine k_slH ?_ | refine k_app ?_ | refine k_ext ?_ | refine k_bk ?_ | refine k_no ?_ | refine k_tNo ?_ | refine k_tYs ?_ | refine k_if ?_ | refine k_gc ?_ | refine k_3B ?_ | refine k_lenT ?_ | refine k_lenL ?_ | refine k_lenC ?_ | refine k_tupT ?_ | refine k_tupL ?_ | refine k_lstL ?_ | refine k_lstC ?_ | refine k_lstT ?_ | refine k_ltS ?_ | refine k_m1 ?_ | refine k_m0 ?_ | refine k_cnt ?_ | refine k_min2 ?_ | refine k_eqB ?_ | refine k_neB ?_ | refine k_slT ?_ | refine k_slL' ?_ | refine k_slC ?_) | ((with_reducible apply k_v); rfl) | ((with_reducible refine k_bnd ?_ ?_); (first | omega | (simp; omega) | skip)) | ((with_reducible refine And.intro ?_ ?_); (first | rfl | exact Nat.le_of_ble_eq_true rfl | omega | (simp; done))) | ((with_reducible apply k_exe); rfl) | ((with_reducible first | apply k_condT | apply k_aug | apply k_lenO | apply k_tupO | apply k_isi | apply k_is | apply k_isn | apply k_ixT | apply k_ixL); rfl) | ((with_reducible apply k_condF); rfl) | ((with_reducible first | apply k_ixO | apply k_putI); rfl; rfl) | ((with_reducible first | apply k_lenS | apply k_mod | apply k_addS | apply k_mulI | apply k_addT | apply k_rep); (first | omega | (simp; omega) | (with_reducible assumption) | decide))))
      rw [hdp]
      refine ih dp (by omega) rfl p1 fun d2 a2 b2 t2 p2 => ?_
      (repeat (first | (with_reducible first | refine k_seq ?_ | refine k_set ?_ | refine k_ret ?_ | refine k_c ?_ | refine k_call ?_ | refine k_aC ?_ | refine k_aN ?_ | refine k_2 ?_ | refine k_1 ?_ | refine k_tOf ?_ | refine k_sIf ?_ | refine k_B ?_ | refine k_tup ?_ | refine k_lst ?_ | refine k_new ?_ | refine k_addI ?_ | refine k_subI ?_ | refine k_eqI ?_ | refine k_neI ?_ | refine k_ltI ?_ | refine k_leI ?_ | refine k_gtI ?_ | refine k_geI ?_ | refine k_eqS ?_ | refine k_neS ?_ | refine k_for ?_ | refine k_forR ?_ | refine k_forG ?_ | refine k_pass ?_ | refine k_ex ?_ | refine k_retN ?_ | refine k_brk ?_ | refine k_cont ?_ | refine k_asg ?_ | refine k_setI ?_ | refine k_sl2 ?_ | refine k_slL ?_ | refine k_slH ?_ | refine k_app ?_ | refine k_ext ?_ | refine k_bk ?_ | refine k_no ?_ | refine k_tNo ?_ | refine k_tYs ?_ | refine k_if ?_ | refine k_gc ?_ | refine k_3B ?_ | refine k_lenT ?_ | refine k_lenL ?_ | refine k_lenC ?_ | refine k_tupT ?_ | refine k_tupL ?_ | refine k_lstL ?_ | refine k_lstC ?_ | refine k_lstT ?_ | refine k_ltS ?_ | refine k_m1 ?_ | refine k_m0 ?_ | refine k_cnt ?_ | refine k_min2 ?_ | refine k_eqB ?_ | refine k_neB ?_ | refine k_slT ?_ | refine k_slL' ?_ | refine k_slC ?_) | ((with_reducible apply k_v); rfl) | ((with_reducible refine k_bnd ?_ ?_); (first | omega | (simp; omega) | skip)) | ((with_reducible refine And.intro ?_ ?_); (first | rfl | exact Nat.le_of_ble_eq_true rfl | omega | (simp; done))) | ((with_reducible apply k_exe); rfl) | ((with_reducible first | apply k_condT | apply k_aug | apply k_lenO | apply k_tupO | apply k_isi | apply k_is | apply k_isn | apply k_ixT | apply k_ixL); rfl) | ((with_reducible apply k_condF); rfl) | ((with_reducible first | apply k_ixO | apply k_putI); rfl; rfl) | ((with_reducible first | apply k_lenS | apply k_mod | apply k_addS | apply k_mulI | apply k_addT | apply k_rep); (first | omega | (simp; omega) | (with_reducible assumption) | decide))))
      refine take_s rfl p2 (by decide) (by decide) fun d3 a3 b3 l3 u3 p3 => ?_
      (repeat (first | (with_reducible first | refine k_seq ?_ | refine k_set ?_ | refine k_ret ?_ | refine k_c ?_ | refine k_call ?_ | refine k_aC ?_ | refine k_aN ?_ | refine k_2 ?_ | refine k_1 ?_ | refine k_tOf ?_ | refine k_sIf ?_ | refine k_B ?_ | refine k_tup ?_ | refine k_lst ?_ | refine k_new ?_ | refine k_addI ?_ | refine k_subI ?_ | refine k_eqI ?_ | refine k_neI ?_ | refine k_ltI ?_ | refine k_leI ?_ | refine k_gtI ?_ | refine k_geI ?_ | refine k_eqS ?_ | refine k_neS ?_ | refine k_for ?_ | refine k_forR ?_ | refine k_forG ?_ | refine k_pass ?_ | refine k_ex ?_ | refine k_retN ?_ | refine k_brk ?_ | refine k_cont ?_ | refine k_asg ?_ | refine k_setI ?_ | refine k_sl2 ?_ | refine k_slL ?_ | refine k_slH ?_ | refine k_app ?_ | refine k_ext ?_ | refine k_bk ?_ | refine k_no ?_ | refine k_tNo ?_ | refine k_tYs ?_ | refine k_if ?_ | refine k_gc ?_ | refine k_3B ?_ | refine k_lenT ?_ | refine k_lenL ?_ | refine k_lenC ?_ | refine k_tupT ?_ | refine k_tupL ?_ | refine k_lstL ?_ | refine k_lstC ?_ | refine k_lstT ?_ | refine k_ltS ?_ | refine k_m1 ?_ | refine k_m0 ?_ | refine k_cnt ?_ | refine k_min2 ?_ | refine k_eqB ?_ | refine k_neB ?_ | refine k_slT ?_ | refine k_slL' ?_ | refine k_slC ?_) | ((with_reducible apply k_v); rfl) | ((with_reducible refine k_bnd ?_ ?_); (first | omega | (simp; omega) | skip)) | ((with_reducible refine And.intro ?_ ?_); (first | rfl | exact Nat.le_of_ble_eq_true rfl | omega | (simp; done))) | ((with_reducible apply k_exe); rfl) | ((with_reducible first | apply k_condT | apply k_aug | apply k_lenO | apply k_tupO | apply k_isi | apply k_is | apply k_isn | apply k_ixT | apply k_ixL); rfl) | ((with_reducible apply k_condF); rfl) | ((with_reducible first | apply k_ixO | apply k_putI); rfl; rfl) | ((with_reducible first | apply k_lenS | apply k_mod | apply k_addS | apply k_mulI | apply k_addT | apply k_rep); (first | omega | (simp; omega) | (with_reducible assumption) | decide))))
      refine OkS_for (fun i e S => ∃ t x, e = [some (.obj 0), some (.int ((dp + 1 : Nat) : Int)), some (.int d1), some t, x] ∧ S = [.lst [.int a3, .int b3]] ∧ tr (14 * dp + i) t) (k := 0) ⟨d2, none, rfl, rfl, t2⟩ ?_ ?_
      · rintro i d _ _ hd ⟨t, x, rfl, rfl, ht⟩
        refine ⟨True.intro, _, rfl, ?_⟩
        (repeat (first | (with_reducible first | refine k_seq ?_ | refine k_set ?_ | refine k_ret ?_ | refine k_c ?_ | refine k_call ?_ | refine k_aC ?_ | refine k_aN ?_ | refine k_2 ?_ | refine k_1 ?_ | refine k_tOf ?_ | refine k_sIf ?_ | refine k_B ?_ | refine k_tup ?_ | refine k_lst ?_ | refine k_new ?_ | refine k_addI ?_ | refine k_subI ?_ | refine k_eqI ?_ | refine k_neI ?_ | refine k_ltI ?_ | refine k_leI ?_ | refine k_gtI ?_ | refine k_geI ?_ | refine k_eqS ?_ | refine k_neS ?_ | refine k_for ?_ | refine k_forR ?_ | refine k_forG ?_ | refine k_pass ?_ | refine k_ex ?_ | refine k_retN ?_ | refine k_brk ?_ | refine k_cont ?_ | refine k_asg ?_ | refine k_setI ?_ | refine k_sl2 ?_ | refine k_slL ?_ | refine k_slH ?_ | refine k_app ?_ | refine k_ext ?_ | refine k_bk ?_ | refine k_no ?_ | refine k_tNo ?_ | refine k_tYs ?_ | refine k_if ?_ | refine k_gc ?_ | refine k_3B ?_ | refine k_lenT ?_ | refine k_lenL ?_ | refine k_lenC ?_ | refine k_tupT ?_ | refine k_tupL ?_ | refine k_lstL ?_ | refine k_lstC ?_ | refine k_lstT ?_ | refine k_ltS ?_ | refine k_m1 ?_ | refine k_m0 ?_ | refine k_cnt ?_ | refine k_min2 ?_ | refine k_eqB ?_ | refine k_neB ?_ | refine k_slT ?_ | refine k_slL' ?_ | refine k_slC ?_) | ((with_reducible apply k_v); rfl) | ((with_reducible refine k_bnd ?_ ?_); (first | omega | (simp; omega) | skip)) | ((with_reducible refine And.intro ?_ ?_); (first | rfl | exact Nat.le_of_ble_eq_true rfl | omega | (simp; done))) | ((with_reducible apply k_exe); rfl) | ((with_reducible first | apply k_condT | apply k_aug | apply k_lenO | apply k_tupO | apply k_isi | apply k_is | apply k_isn | apply k_ixT | apply k_ixL); rfl) | ((with_reducible apply k_condF); rfl) | ((with_reducible first | apply k_ixO | apply k_putI); rfl; rfl) | ((with_reducible first | apply k_lenS | apply k_mod | apply k_addS | apply k_mulI | apply k_addT | apply k_rep); (first | omega | (simp; omega) | (with_reducible assumption) | decide))))
        exact ⟨_, _, rfl, rfl, by
          rw [show 14 * dp + (0 + i + 1) = (14 * dp + (0 + i)) + 1 by omega]
          exact ⟨by simp, fun z hz => by rw [List.mem_singleton.mp hz]; exact ht⟩⟩
      · rintro _ _ ⟨t, x, rfl, rfl, ht⟩
        rw [rng_len] at ht
        refine ⟨True.intro, ?_⟩
        (repeat (first | (with_reducible first | refine k_seq ?_ | refine k_set ?_ | refine k_ret ?_ | refine k_c ?_ | refine k_call ?_ | refine k_aC ?_ | refine k_aN ?_ | refine k_2 ?_ | refine k_1 ?_ | refine k_tOf ?_ | refine k_sIf ?_ | refine k_B ?_ | refine k_tup ?_ | refine k_lst ?_ | refine k_new ?_ | refine k_addI ?_ | refine k_subI ?_ | refine k_eqI ?_ | refine k_neI ?_ | refine k_ltI ?_ | refine k_leI ?_ | refine k_gtI ?_ | refine k_geI ?_ | refine k_eqS ?_ | refine k_neS ?_ | refine k_for ?_ | refine k_forR ?_ | refine k_forG ?_ | refine k_pass ?_ | refine k_ex ?_ | refine k_retN ?_ | refine k_brk ?_ | refine k_cont ?_ | refine k_asg ?_ | refine k_setI ?_ | refine k_sl2 ?_ | refine k_slL ?_ | refine k_slH ?_ | refine k_app ?_ | refine k_ext ?_ | refine k_bk ?_ | refine k_no ?_ | refine k_tNo ?_ | refine k_tYs ?_ | refine k_if ?_ | refine k_gc ?_ | refine k_3B ?_ | refine k_lenT ?_ | refine k_lenL ?_ | refine k_lenC ?_ | refine k_tupT ?_ | refine k_tupL ?_ | refine k_lstL ?_ | refine k_lstC ?_ | refine k_lstT ?_ | refine k_ltS ?_ | refine k_m1 ?_ | refine k_m0 ?_ | refine k_cnt ?_ | refine k_min2 ?_ | refine k_eqB ?_ | refine k_neB ?_ | refine k_slT ?_ | refine k_slL' ?_ | refine k_slC ?_) | ((with_reducible apply k_v); rfl) | ((with_reducible refine k_bnd ?_ ?_); (first | omega | (simp; omega) | skip)) | ((with_reducible refine And.intro ?_ ?_); (first | rfl | exact Nat.le_of_ble_eq_true rfl | omega | (simp; done))) | ((with_reducible apply k_exe); rfl) | ((with_reducible first | apply k_condT | apply k_aug | apply k_lenO | apply k_tupO | apply k_isi | apply k_is | apply k_isn | apply k_ixT | apply k_ixL); rfl) | ((with_reducible apply k_condF); rfl) | ((with_reducible first | apply k_ixO | apply k_putI); rfl; rfl) | ((with_reducible first | apply k_lenS | apply k_mod | apply k_addS | apply k_mulI | apply k_addT | apply k_rep); (first | omega | (simp; omega) | (with_reducible assumption) | decide))))
        have hc := tr_cl ht
        have hs : ∀ S, still 1 S t = t := fun S => by cases t <;> first | rfl | (cases hc; done)
        have hl : low 1 t = true := cl_low hc
        show (low 1 (still 1 _ t) = true ∧ _) ∧ _
        simp only [List.length_singleton, hs]
        exact ⟨⟨hl, rfl⟩, _, rfl, rfl, hc, h _ _ _ (tr_mono ht (by omega)) p3⟩
    · (repeat (first | (with_reducible first | refine k_seq ?_ | refine k_set ?_ | refine k_ret ?_ | refine k_c ?_ | refine k_call ?_ | refine k_aC ?_ | refine k_aN ?_ | refine k_2 ?_ | refine k_1 ?_ | refine k_tOf ?_ | refine k_sIf ?_ | refine k_B ?_ | refine k_tup ?_ | refine k_lst ?_ | refine k_new ?_ | refine k_addI ?_ | refine k_subI ?_ | refine k_eqI ?_ | refine k_neI ?_ | refine k_ltI ?_ | refine k_leI ?_ | refine k_gtI ?_ | refine k_geI ?_ | refine k_eqS ?_ | refine k_neS ?_ | refine k_for ?_ | refine k_forR ?_ | refine k_forG ?_ | refine k_pass ?_ | refine k_ex ?_ | refine k_retN ?_ | refine k_brk ?_ | refine k_cont ?_ | refine k_asg ?_ | refine k_setI ?_ | refine k_sl2 ?_ | refine k_slL ?_ | refine k_slH ?_ | refine k_app ?_ | refine k_ext ?_ | refine k_bk ?_ | refine k_no ?_ | refine k_tNo ?_ | refine k_tYs ?_ | refine k_if ?_ | refine k_gc ?_ | refine k_3B ?_ | refine k_lenT ?_ | refine k_lenL ?_ | refine k_lenC ?_ | refine k_tupT ?_ | refine k_tupL ?_ | refine k_lstL ?_ | refine k_lstC ?_ | refine k_lstT ?_ | refine k_ltS ?_ | refine k_m1 ?_ | refine k_m0 ?_ | refine k_cnt ?_ | refine k_min2 ?_ | refine k_eqB ?_ | refine k_neB ?_ | refine k_slT ?_ | refine k_slL' ?_ | refine k_slC ?_) | ((with_reducible apply k_v); rfl) | ((with_reducible refine k_bnd ?_ ?_); (first | omega | (simp; omega) | skip)) | ((with_reducible refine And.intro ?_ ?_); (first | rfl | exact Nat.le_of_ble_eq_true rfl | omega | (simp; done))) | ((with_reducible apply k_exe); rfl) | ((with_reducible first | apply k_condT | apply k_aug | apply k_lenO | apply k_tupO | apply k_isi | apply k_is | apply k_isn | apply k_ixT | apply k_ixL); rfl) | ((with_reducible apply k_condF); rfl) | ((with_reducible first | apply k_ixO | apply k_putI); rfl; rfl) | ((with_reducible first | apply k_lenS | apply k_mod | apply k_addS | apply k_mulI | apply k_addT | apply k_rep); (first | omega | (simp; omega) | (with_reducible assumption) | decide))))
      refine k_lcG ?_
      (repeat (first | (with_reducible first | refine k_seq ?_ | refine k_set ?_ | refine k_ret ?_ | refine k_c ?_ | refine k_call ?_ | refine k_aC ?_ | refine k_aN ?_ | refine k_2 ?_ | refine k_1 ?_ | refine k_tOf ?_ | refine k_sIf ?_ | refine k_B ?_ | refine k_tup ?_ | refine k_lst ?_ | refine k_new ?_ | refine k_addI ?_ | refine k_subI ?_ | refine k_eqI ?_ | refine k_neI ?_ | refine k_ltI ?_ | refine k_leI ?_ | refine k_gtI ?_ | refine k_geI ?_ | refine k_eqS ?_ | refine k_neS ?_ | refine k_for ?_ | refine k_forR ?_ | refine k_forG ?_ | refine k_pass ?_ | refine k_ex ?_ | refine k_retN ?_ | refine k_brk ?_ | refine k_cont ?_ | refine k_asg ?_ | refine k_setI ?_ | refine k_sl2 ?_ | refine k_slL ?_ | refine k_slH ?_ | refine k_app ?_ | refine k_ext ?_ | refine k_bk ?_ | refine k_no ?_ | refine k_tNo ?_ | refine k_tYs ?_ | refine k_if ?_ | refine k_gc ?_ | refine k_3B ?_ | refine k_lenT ?_ | refine k_lenL ?_ | refine k_lenC ?_ | refine k_tupT ?_ | refine k_tupL ?_ | refine k_lstL ?_ | refine k_lstC ?_ | refine k_lstT ?_ | refine k_ltS ?_ | refine k_m1 ?_ | refine k_m0 ?_ | refine k_cnt ?_ | refine k_min2 ?_ | refine k_eqB ?_ | refine k_neB ?_ | refine k_slT ?_ | refine k_slL' ?_ | refine k_slC ?_) | ((with_reducible apply k_v); rfl) | ((with_reducible refine k_bnd ?_ ?_); (first | omega | (simp; omega) | skip)) | ((with_reducible refine And.intro ?_ ?_); (first | rfl | exact Nat.le_of_ble_eq_true rfl | omega | (simp; done))) | ((with_reducible apply k_exe); rfl) | ((with_reducible first | apply k_condT | apply k_aug | apply k_lenO | apply k_tupO | apply k_isi | apply k_is | apply k_isn | apply k_ixT | apply k_ixL); rfl) | ((with_reducible apply k_condF); rfl) | ((with_reducible first | apply k_ixO | apply k_putI); rfl; rfl) | ((with_reducible first | apply k_lenS | apply k_mod | apply k_addS | apply k_mulI | apply k_addT | apply k_rep); (first | omega | (simp; omega) | (with_reducible assumption) | decide))))
      refine take_s rfl p1 (by decide) (by decide) fun d2 a2 b2 l2 u2 p2 => ?_
      (repeat (first | (with_reducible first | refine k_seq ?_ | refine k_set ?_ | refine k_ret ?_ | refine k_c ?_ | refine k_call ?_ | refine k_aC ?_ | refine k_aN ?_ | refine k_2 ?_ | refine k_1 ?_ | refine k_tOf ?_ | refine k_sIf ?_ | refine k_B ?_ | refine k_tup ?_ | refine k_lst ?_ | refine k_new ?_ | refine k_addI ?_ | refine k_subI ?_ | refine k_eqI ?_ | refine k_neI ?_ | refine k_ltI ?_ | refine k_leI ?_ | refine k_gtI ?_ | refine k_geI ?_ | refine k_eqS ?_ | refine k_neS ?_ | refine k_for ?_ | refine k_forR ?_ | refine k_forG ?_ | refine k_pass ?_ | refine k_ex ?_ | refine k_retN ?_ | refine k_brk ?_ | refine k_cont ?_ | refine k_asg ?_ | refine k_setI ?_ | refine k_sl2 ?_ | refine k_slL ?_ | refine k_slH ?_ | refine k_app ?_ | refine k_ext ?_ | refine k_bk ?_ | refine k_no ?_ | refine k_tNo ?_ | refine k_tYs ?_ | refine k_if ?_ | refine k_gc ?_ | refine k_3B ?_ | refine k_lenT ?_ | refine k_lenL ?_ | refine k_lenC ?_ | refine k_tupT ?_ | refine k_tupL ?_ | refine k_lstL ?_ | refine k_lstC ?_ | refine k_lstT ?_ | refine k_ltS ?_ | refine k_m1 ?_ | refine k_m0 ?_ | refine k_cnt ?_ | refine k_min2 ?_ | refine k_eqB ?_ | refine k_neB ?_ | refine k_slT ?_ | refine k_slL' ?_ | refine k_slC ?_) | ((with_reducible apply k_v); rfl) | ((with_reducible refine k_bnd ?_ ?_); (first | omega | (simp; omega) | skip)) | ((with_reducible refine And.intro ?_ ?_); (first | rfl | exact Nat.le_of_ble_eq_true rfl | omega | (simp; done))) | ((with_reducible apply k_exe); rfl) | ((with_reducible first | apply k_condT | apply k_aug | apply k_lenO | apply k_tupO | apply k_isi | apply k_is | apply k_isn | apply k_ixT | apply k_ixL); rfl) | ((with_reducible apply k_condF); rfl) | ((with_reducible first | apply k_ixO | apply k_putI); rfl; rfl) | ((with_reducible first | apply k_lenS | apply k_mod | apply k_addS | apply k_mulI | apply k_addT | apply k_rep); (first | omega | (simp; omega) | (with_reducible assumption) | decide))))
      refine ⟨0, d2.toNat, by simp [rgs]; omega, ?_⟩
      refine OkE_lc (fun i acc S => ∃ a b, S = [.lst [.int a, .int b]] ∧ Pot a b ∧ acc.length = i ∧ ∀ d ∈ acc, tr (14 * dp) d) (k := 0) ⟨a2, b2, rfl, p2, rfl, fun d hd => by cases hd⟩ (by rw [rng_len]; simp; omega) ?_ ?_
      · rintro i d acc _ hd ⟨a, b, rfl, p, hl, hall⟩
        refine ⟨True.intro, _, rfl, ?_⟩
        (repeat (first | (with_reducible first | refine k_seq ?_ | refine k_set ?_ | refine k_ret ?_ | refine k_c ?_ | refine k_call ?_ | refine k_aC ?_ | refine k_aN ?_ | refine k_2 ?_ | refine k_1 ?_ | refine k_tOf ?_ | refine k_sIf ?_ | refine k_B ?_ | refine k_tup ?_ | refine k_lst ?_ | refine k_new ?_ | refine k_addI ?_ | refine k_subI ?_ | refine k_eqI ?_ | refine k_neI ?_ | refine k_ltI ?_ | refine k_leI ?_ | refine k_gtI ?_ | refine k_geI ?_ | refine k_eqS ?_ | refine k_neS ?_ | refine k_for ?_ | refine k_forR ?_ | refine k_forG ?_ | refine k_pass ?_ | refine k_ex ?_ | refine k_retN ?_ | refine k_brk ?_ | refine k_cont ?_ | refine k_asg ?_ | refine k_setI ?_ | refine k_sl2 ?_ | refine k_slL ?_ | refine k_slH ?_ | refine k_app ?_ | refine k_ext ?_ | refine k_bk ?_ | refine k_no ?_ | refine k_tNo ?_ | refine k_tYs ?_ | refine k_if ?_ | refine k_gc ?_ | refine k_3B ?_ | refine k_lenT ?_ | refine k_lenL ?_ | refine k_lenC ?_ | refine k_tupT ?_ | refine k_tupL ?_ | refine k_lstL ?_ | refine k_lstC ?_ | refine k_lstT ?_ | refine k_ltS ?_ | refine k_m1 ?_ | refine k_m0 ?_ | refine k_cnt ?_ | refine k_min2 ?_ | refine k_eqB ?_ | refine k_neB ?_ | refine k_slT ?_ | refine k_slL' ?_ | refine k_slC ?_) | ((with_reducible apply k_v); rfl) | ((with_reducible refine k_bnd ?_ ?_); (first | omega | (simp; omega) | skip)) | ((with_reducible refine And.intro ?_ ?_); (first | rfl | exact Nat.le_of_ble_eq_true rfl | omega | (simp; done))) | ((with_reducible apply k_exe); rfl) | ((with_reducible first | apply k_condT | apply k_aug | apply k_lenO | apply k_tupO | apply k_isi | apply k_is | apply k_isn | apply k_ixT | apply k_ixL); rfl) | ((with_reducible apply k_condF); rfl) | ((with_reducible first | apply k_ixO | apply k_putI); rfl; rfl) | ((with_reducible first | apply k_lenS | apply k_mod | apply k_addS | apply k_mulI | apply k_addT | apply k_rep); (first | omega | (simp; omega) | (with_reducible assumption) | decide))))
        refine ⟨fun _ => ?_, fun z => by cases z⟩
        (repeat (first | (with_reducible first | refine k_seq ?_ | refine k_set ?_ | refine k_ret ?_ | refine k_c ?_ | refine k_call ?_ | refine k_aC ?_ | refine k_aN ?_ | refine k_2 ?_ | refine k_1 ?_ | refine k_tOf ?_ | refine k_sIf ?_ | refine k_B ?_ | refine k_tup ?_ | refine k_lst ?_ | refine k_new ?_ | refine k_addI ?_ | refine k_subI ?_ | refine k_eqI ?_ | refine k_neI ?_ | refine k_ltI ?_ | refine k_leI ?_ | refine k_gtI ?_ | refine k_geI ?_ | refine k_eqS ?_ | refine k_neS ?_ | refine k_for ?_ | refine k_forR ?_ | refine k_forG ?_ | refine k_pass ?_ | refine k_ex ?_ | refine k_retN ?_ | refine k_brk ?_ | refine k_cont ?_ | refine k_asg ?_ | refine k_setI ?_ | refine k_sl2 ?_ | refine k_slL ?_ | refine k_slH ?_ | refine k_app ?_ | refine k_ext ?_ | refine k_bk ?_ | refine k_no ?_ | refine k_tNo ?_ | refine k_tYs ?_ | refine k_if ?_ | refine k_gc ?_ | refine k_3B ?_ | refine k_lenT ?_ | refine k_lenL ?_ | refine k_lenC ?_ | refine k_tupT ?_ | refine k_tupL ?_ | refine k_lstL ?_ | refine k_lstC ?_ | refine k_lstT ?_ | refine k_ltS ?_ | refine k_m1 ?_ | refine k_m0 ?_ | refine k_cnt ?_ | refine k_min2 ?_ | refine k_eqB ?_ | refine k_neB ?_ | refine k_slT ?_ | refine k_slL' ?_ | refine k_slC ?_) | ((with_reducible apply k_v); rfl) | ((with_reducible refine k_bnd ?_ ?_); (first | omega | (simp; omega) | skip)) | ((with_reducible refine And.intro ?_ ?_); (first | rfl | exact Nat.le_of_ble_eq_true rfl | omega | (simp; done))) | ((with_reducible apply k_exe); rfl) | ((with_reducible first | apply k_condT | apply k_aug | apply k_lenO | apply k_tupO | apply k_isi | apply k_is | apply k_isn | apply k_ixT | apply k_ixL); rfl) | ((with_reducible apply k_condF); rfl) | ((with_reducible first | apply k_ixO | apply k_putI); rfl; rfl) | ((with_reducible first | apply k_lenS | apply k_mod | apply k_addS | apply k_mulI | apply k_addT | apply k_rep); (first | omega | (simp; omega) | (with_reducible assumption) | decide))))
        rw [hdp]
        refine ih dp (by omega) rfl p fun d3 a3 b3 t3 p3 => ?_
        refine ⟨_, _, rfl, p3, by rw [List.length_append, hl]; rfl, fun d hd => ?_⟩
        rcases List.mem_append.mp hd with hd | hd
        · exact hall d hd
        · rw [List.mem_singleton.mp hd]; exact t3
      · rintro acc _ ⟨a, b, rfl, p, hl, hall⟩
        rw [rng_len] at hl
        refine ⟨True.intro, ?_⟩
        (repeat (first | (with_reducible first | refine k_seq ?_ | refine k_set ?_ | refine k_ret ?_ | refine k_c ?_ | refine k_call ?_ | refine k_aC ?_ | refine k_aN ?_ | refine k_2 ?_ | refine k_1 ?_ | refine k_tOf ?_ | refine k_sIf ?_ | refine k_B ?_ | refine k_tup ?_ | refine k_lst ?_ | refine k_new ?_ | refine k_addI ?_ | refine k_subI ?_ | refine k_eqI ?_ | refine k_neI ?_ | refine k_ltI ?_ | refine k_leI ?_ | refine k_gtI ?_ | refine k_geI ?_ | refine k_eqS ?_ | refine k_neS ?_ | refine k_for ?_ | refine k_forR ?_ | refine k_forG ?_ | refine k_pass ?_ | refine k_ex ?_ | refine k_retN ?_ | refine k_brk ?_ | refine k_cont ?_ | refine k_asg ?_ | refine k_setI ?_ | refine k_sl2 ?_ | refine k_slL ?_ | refine k_slH ?_ | refine k_app ?_ | refine k_ext ?_ | refine k_bk ?_ | refine k_no ?_ | refine k_tNo ?_ | refine k_tYs ?_ | refine k_if ?_ | refine k_gc ?_ | refine k_3B ?_ | refine k_lenT ?_ | refine k_lenL ?_ | refine k_lenC ?_ | refine k_tupT ?_ | refine k_tupL ?_ | refine k_lstL ?_ | refine k_lstC ?_ | refine k_lstT ?_ | refine k_ltS ?_ | refine k_m1 ?_ | refine k_m0 ?_ | refine k_cnt ?_ | refine k_min2 ?_ | refine k_eqB ?_ | refine k_neB ?_ | refine k_slT ?_ | refine k_slL' ?_ | refine k_slC ?_) | ((with_reducible apply k_v); rfl) | ((with_reducible refine k_bnd ?_ ?_); (first | omega | (simp; omega) | skip)) | ((with_reducible refine And.intro ?_ ?_); (first | rfl | exact Nat.le_of_ble_eq_true rfl | omega | (simp; done))) | ((with_reducible apply k_exe); rfl) | ((with_reducible first | apply k_condT | apply k_aug | apply k_lenO | apply k_tupO | apply k_isi | apply k_is | apply k_isn | apply k_ixT | apply k_ixL); rfl) | ((with_reducible apply k_condF); rfl) | ((with_reducible first | apply k_ixO | apply k_putI); rfl; rfl) | ((with_reducible first | apply k_lenS | apply k_mod | apply k_addS | apply k_mulI | apply k_addT | apply k_rep); (first | omega | (simp; omega) | (with_reducible assumption) | decide))))
        have ht : tr (14 * dp + 1) (.tup acc) := ⟨by omega, hall⟩
        have hc := tr_cl ht
        have hl : low 1 (.tup acc) = true := cl_low hc
        exact ⟨⟨hl, rfl⟩, _, rfl, rfl, hc, h _ _ _ (tr_mono ht (by omega)) p⟩
end Law

namespace Law
open PySem PySem.Spec PyProof.Rows L2 DL
/-! ### the order of trees, by rows of numbers -/
mutual
def enc : D → List Nat
  | .str x => 0 :: (x.cps.toList.map (· + 1) ++ [0])
  | .tup ds => 1 :: encs ds
  | _ => []
def encs : List D → List Nat
  | [] => [0]
  | d :: ds => 1 :: (enc d ++ encs ds)
end
/-- unlike at a place -/
def Df (A B : List Nat) (k : Bool) : Prop := ∃ p c d u v, A = p ++ c :: u ∧ B = p ++ d :: v ∧ c ≠ d ∧ k = decide (c < d)
section
variable {A B l m p : List Nat} {k : Bool}
theorem Df.app (h : Df A B k) : Df (A ++ l) (B ++ m) k := by
  obtain ⟨p, c, d, u, v, rfl, rfl, h1, h2⟩ := h
  exact ⟨p, c, d, u ++ l, v ++ m, by simp, by simp, h1, h2⟩
theorem Df.pre (h : Df A B k) : Df (p ++ A) (p ++ B) k := by
  obtain ⟨q, c, d, u, v, rfl, rfl, h1, h2⟩ := h
  exact ⟨p ++ q, c, d, u, v, by simp, by simp, h1, h2⟩
theorem Df.cons {c : Nat} (h : Df A B k) : Df (c :: A) (c :: B) k := Df.pre (p := [c]) h
theorem Df.head {c d : Nat} {u v : List Nat} (h : c ≠ d) : Df (c :: u) (d :: v) (decide (c < d)) := ⟨[], c, d, u, v, rfl, rfl, h, rfl⟩
theorem Df.lt (h : Df A B k) : decide (A < B) = k := by
  obtain ⟨p, c, d, u, v, rfl, rfl, h1, rfl⟩ := h
  have : (p ++ c :: u < p ++ d :: v) ↔ c < d := by
    induction p with
    | nil =>
      rw [List.nil_append, List.nil_append, List.cons_lt_cons_iff]
      exact ⟨fun h => h.elim (fun x => x) fun x => absurd x.1 h1, .inl⟩
    | cons a p ih =>
      rw [List.cons_append, List.cons_append, List.cons_lt_cons_iff, ih]
      exact ⟨fun h => h.elim (fun x => absurd x (Nat.lt_irrefl _)) fun x => x.2, fun x => .inr ⟨rfl, x⟩⟩
  exact decide_eq_decide.mpr this
theorem Df.ne (h : Df A B k) : A ≠ B := by
  obtain ⟨p, c, d, u, v, rfl, rfl, h1, rfl⟩ := h
  intro e
  have := List.append_cancel_left e
  cases this
  exact h1 rfl
end
theorem str_df : ∀ {x y : List Nat}, x ≠ y → Df (x.map (· + 1) ++ [0]) (y.map (· + 1) ++ [0]) (decide (x < y))
  | [], [], h => absurd rfl h
  | [], y :: ys, _ => by
    have : decide (([] : List Nat) < y :: ys) = decide (0 < y + 1) := by simp
    rw [this]
    exact Df.head (by show (0 : Nat) ≠ y + 1; omega)
  | x :: xs, [], _ => by
    have : decide (x :: xs < ([] : List Nat)) = decide (x + 1 < 0) := by simp
    rw [this]
    exact Df.head (by show x + 1 ≠ 0; omega)
  | x :: xs, y :: ys, h => by
    by_cases e : x = y
    · subst e
      have : decide (x :: xs < x :: ys) = decide (xs < ys) := by simp [List.cons_lt_cons_iff]
      rw [this]
      exact (str_df fun z => h (by rw [z])).cons
    · have : decide (x :: xs < y :: ys) = decide (x + 1 < y + 1) := by simp [List.cons_lt_cons_iff, e]
      rw [this]
      exact Df.head (by show x + 1 ≠ y + 1; omega)
theorem str_ext {x y : Str} (h : x.cps.toList = y.cps.toList) : x = y := by
  cases x; cases y
  exact congrArg Str.mk (Array.toList_inj.mp h)
theorem enc_df : ∀ (n : Nat) (a b : D), tr n a → tr n b → a ≠ b → ∃ k, Df (enc a) (enc b) k := by
  intro n
  induction n with
  | zero =>
    intro a b ha hb h
    cases a <;> cases b <;> first | exact ha.elim | exact hb.elim | skip
    rename_i x y
    exact ⟨_, (str_df fun z => h (by rw [str_ext z])).cons⟩
  | succ n ih =>
    have all : ∀ ds es : List D, (∀ d ∈ ds, tr n d) → (∀ d ∈ es, tr n d) → ds ≠ es → ∃ k, Df (encs ds) (encs es) k := by
      intro ds
      induction ds with
      | nil =>
        intro es _ _ h
        cases es with
        | nil => exact absurd rfl h
        | cons e es => exact ⟨_, Df.head (by decide)⟩
      | cons d ds ih2 =>
        intro es h1 h2 h
        cases es with
        | nil => exact ⟨_, Df.head (by decide)⟩
        | cons e es =>
          by_cases de : d = e
          · subst de
            obtain ⟨k, hk⟩ := ih2 es (fun z hz => h1 z (by simp [hz])) (fun z hz => h2 z (by simp [hz])) (fun z => h (by rw [z]))
            exact ⟨k, (Df.pre hk).cons⟩
          · obtain ⟨k, hk⟩ := ih d e (h1 d (by simp)) (h2 e (by simp)) de
            exact ⟨k, (Df.app hk).cons⟩
    intro a b ha hb h
    cases a <;> cases b <;> first | exact False.elim ha | exact False.elim hb | skip
    · rename_i x y
      exact ⟨_, (str_df fun z => h (by rw [str_ext z])).cons⟩
    · exact ⟨_, Df.head (by decide)⟩
    · exact ⟨_, Df.head (by decide)⟩
    · rename_i ds es
      obtain ⟨k, hk⟩ := all ds es ha.2 hb.2 fun z => h (by rw [z])
      exact ⟨k, hk.cons⟩
theorem enc_inj {n : Nat} {a b : D} (ha : tr n a) (hb : tr n b) (h : enc a = enc b) : a = b := by
  apply Classical.byContradiction
  intro z
  obtain ⟨k, hk⟩ := enc_df n a b ha hb z
  exact hk.ne h
/-- is a ahead of b? -/
def tlt (a b : D) : Bool := decide (enc a < enc b)
theorem tlt_str {x y : Str} : tlt (.str x) (.str y) = decide (x.cps.toList < y.cps.toList) := by
  by_cases h : x.cps.toList = y.cps.toList
  · unfold tlt
    rw [str_ext h]
    simp [List.lt_irrefl]
  · exact (str_df h).cons.lt
end Law

namespace Law
open PySem PySem.Spec PyProof.Rows L2 DL
/-! ### texts of trees -/
def esc1 (c : Nat) : List Nat := if c = 92 then [92, 92] else if c = 34 then [92, 34] else [c]
def esc (x : List Nat) : List Nat := x.flatMap esc1
mutual
def tt : D → List Nat
  | .str x => 34 :: (esc x.cps.toList ++ [34])
  | .tup ds => 40 :: (tts ds ++ [41])
  | _ => []
def tts : List D → List Nat
  | [] => []
  | d :: ds => tt d ++ ttr ds
def ttr : List D → List Nat
  | [] => []
  | d :: ds => 32 :: (tt d ++ ttr ds)
end
theorem esc_inj : ∀ {x y l m : List Nat}, esc x ++ 34 :: l = esc y ++ 34 :: m → x = y ∧ l = m
  | [], [], l, m, h => by simpa [esc] using h
  | [], y :: ys, l, m, h => by
    simp only [esc, List.flatMap_nil, List.flatMap_cons, List.nil_append, esc1] at h
    split at h
    · simp at h
    · split at h
      · simp at h
      · simp at h; omega
  | x :: xs, [], l, m, h => by
    simp only [esc, List.flatMap_nil, List.flatMap_cons, List.nil_append, esc1] at h
    split at h
    · simp at h
    · split at h
      · simp at h
      · simp at h; omega
  | x :: xs, y :: ys, l, m, h => by
    have key : x = y ∧ esc xs ++ 34 :: l = esc ys ++ 34 :: m := by
      simp only [esc, List.flatMap_cons, esc1] at h ⊢
      split at h
      · split at h
        · simp at h; exact ⟨by omega, h⟩
        · split at h
          · simp at h
          · simp at h; omega
      · split at h
        · split at h
          · simp at h
          · split at h
            · simp at h; exact ⟨by omega, h⟩
            · simp at h; omega
        · split at h
          · simp at h; omega
          · split at h
            · simp at h; omega
            · simp at h; exact h
    obtain ⟨h1, h2⟩ := key
    obtain ⟨h3, h4⟩ := esc_inj h2
    exact ⟨by rw [h1, h3], h4⟩
theorem tt_head : ∀ {n : Nat} {d : D}, tr n d → ∃ c r, tt d = c :: r ∧ (c = 34 ∨ c = 40)
  | 0, .str x, _ => ⟨34, _, rfl, .inl rfl⟩
  | n + 1, .str x, _ => ⟨34, _, rfl, .inl rfl⟩
  | n + 1, .tup ds, _ => ⟨40, _, rfl, .inr rfl⟩
  | 0, .tup ds, h => h.elim
  | 0, .obj _, h => h.elim
  | n + 1, .obj _, h => h.elim
  | 0, .scr _, h => h.elim
  | n + 1, .scr _, h => h.elim
  | 0, .lst ds, h => h.elim
  | n + 1, .lst ds, h => h.elim
  | 0, .dct _ ds, h => h.elim
  | n + 1, .dct _ ds, h => h.elim
  | 0, .non, h => h.elim
  | 0, .bl _, h => h.elim
  | 0, .int _, h => h.elim
  | n + 1, .non, h => h.elim
  | n + 1, .bl _, h => h.elim
  | n + 1, .int _, h => h.elim
theorem tt_inj : ∀ (n : Nat) (a b : D), tr n a → tr n b → ∀ l m, tt a ++ l = tt b ++ m → a = b ∧ l = m := by
  intro n
  induction n with
  | zero =>
    intro a b ha hb l m h
    cases a <;> cases b <;> first | exact ha.elim | exact hb.elim | skip
    simp only [tt, List.cons_append, List.cons.injEq, true_and, List.append_assoc, List.nil_append] at h
    obtain ⟨h1, h2⟩ := esc_inj h
    exact ⟨by rw [str_ext h1], h2⟩
  | succ n ih =>
    have rest : ∀ ds es : List D, (∀ d ∈ ds, tr n d) → (∀ d ∈ es, tr n d) → ∀ l m, ttr ds ++ 41 :: l = ttr es ++ 41 :: m → ds = es ∧ l = m := by
      intro ds
      induction ds with
      | nil =>
        intro es _ _ l m h
        cases es with
        | nil => simpa [ttr] using h
        | cons e es => simp [ttr] at h
      | cons d ds ih2 =>
        intro es h1 h2 l m h
        cases es with
        | nil => simp [ttr] at h
        | cons e es =>
          simp only [ttr, List.cons_append, List.cons.injEq, true_and, List.append_assoc] at h
          obtain ⟨h3, h4⟩ := ih d e (h1 d (by simp)) (h2 e (by simp)) _ _ h
          obtain ⟨h5, h6⟩ := ih2 es (fun z hz => h1 z (by simp [hz])) (fun z hz => h2 z (by simp [hz])) l m h4
          exact ⟨by rw [h3, h5], h6⟩
    intro a b ha hb l m h
    cases a <;> cases b <;> first | exact False.elim ha | exact False.elim hb | skip
    · simp only [tt, List.cons_append, List.cons.injEq, true_and, List.append_assoc, List.nil_append] at h
      obtain ⟨h1, h2⟩ := esc_inj h
      exact ⟨by rw [str_ext h1], h2⟩
    · simp [tt] at h
    · simp [tt] at h
    · rename_i ds es
      simp only [tt, List.cons_append, List.cons.injEq, true_and, List.append_assoc, List.nil_append] at h
      have hd := ha.2
      have he := hb.2
      cases ds with
      | nil =>
        cases es with
        | nil => simpa [tts] using h
        | cons e es =>
          obtain ⟨c, r, h1, h2⟩ := tt_head (he e (by simp))
          simp only [tts, List.nil_append, h1, List.cons_append, List.append_assoc, List.cons.injEq] at h
          omega
      | cons d ds =>
        cases es with
        | nil =>
          obtain ⟨c, r, h1, h2⟩ := tt_head (hd d (by simp))
          simp only [tts, List.nil_append, h1, List.cons_append, List.append_assoc, List.cons.injEq] at h
          omega
        | cons e es =>
          simp only [tts, List.append_assoc] at h
          obtain ⟨h3, h4⟩ := ih d e (hd d (by simp)) (he e (by simp)) _ _ h
          obtain ⟨h5, h6⟩ := rest ds es (fun z hz => hd z (by simp [hz])) (fun z hz => he z (by simp [hz])) l m h4
          exact ⟨by rw [h3, h5], h6⟩
theorem tt_eq {n : Nat} {a b : D} (ha : tr n a) (hb : tr n b) : tt a = tt b ↔ a = b :=
  ⟨fun h => (tt_inj n a b ha hb [] [] (by rw [h])).1, fun h => by rw [h]⟩
end Law

namespace Law
open PySem PySem.Spec PyProof.Rows L2 DL
/-! ### keys -/
mutual
def kd : D → D
  | .str x => .tup [.int 0, .str x]
  | .tup ds => .tup [.int 1, .tup (kds ds)]
  | _ => .non
def kds : List D → List D
  | [] => []
  | d :: ds => kd d :: kds ds
end
mutual
def pk : D → PyData
  | .str x => .tuple [.int 0, .str x]
  | .tup ds => .tuple [.int 1, .tuple (pks ds)]
  | _ => .none
def pks : List D → List PyData
  | [] => []
  | d :: ds => pk d :: pks ds
end
theorem kds_map : ∀ ds : List D, kds ds = ds.map kd
  | [] => rfl
  | d :: ds => by rw [kds, kds_map ds]; rfl
theorem pd_kd : ∀ (n : Nat) (d : D), tr n d → pd (kd d) = some (pk d) ∧ (pk d).canLay0 = true ∧ (pk d).depth ≤ 2 * n + 2 := by
  intro n
  have leaf : ∀ x : Str, PyData.strOk x = true → pd (kd (.str x)) = some (pk (.str x)) ∧ (pk (.str x)).canLay0 = true ∧ (pk (.str x)).depth ≤ 2 := fun x hx => by
    refine ⟨rfl, ?_, by simp only [pk, PyData.depth, PyData.depthAll]; omega⟩
    simp only [pk, PyData.canLay0, PyData.canLayAll0, hx]; rfl
  induction n with
  | zero =>
    intro d h
    cases d <;> first | exact h.elim | skip
    exact leaf _ h.2.ok
  | succ n ih =>
    intro d h
    cases d <;> first | exact False.elim h | skip
    · obtain ⟨h1, h2, h3⟩ := leaf _ h.2.ok
      exact ⟨h1, h2, by omega⟩
    · rename_i ds
      have all : ∀ ds : List D, (∀ d ∈ ds, tr n d) → pds (kds ds) = some (pks ds) ∧ PyData.canLayAll0 (pks ds) = true ∧ PyData.depthAll (pks ds) ≤ 2 * n + 2 := by
        intro ds
        induction ds with
        | nil => intro _; exact ⟨rfl, rfl, Nat.zero_le _⟩
        | cons d ds ih2 =>
          intro hd
          obtain ⟨h1, h2, h3⟩ := ih d (hd d (by simp))
          obtain ⟨h4, h5, h6⟩ := ih2 fun z hz => hd z (by simp [hz])
          refine ⟨by rw [kds, pds, h1, h4]; rfl, by rw [pks, PyData.canLayAll0, h2, h5]; rfl, ?_⟩
          rw [pks, PyData.depthAll]; omega
      obtain ⟨h1, h2, h3⟩ := all ds h.2
      refine ⟨?_, ?_, ?_⟩
      · simp only [kd, pk, pd, pds, h1]; rfl
      · simp only [pk, PyData.canLay0, PyData.canLayAll0, h2]; rfl
      · simp only [pk, PyData.depth, PyData.depthAll]; omega
theorem eqv_pk : ∀ (n : Nat) (a b : D), tr n a → tr n b → (PyData.eqv (pk a) (pk b) = true ↔ a = b) := by
  intro n
  induction n with
  | zero =>
    intro a b ha hb
    cases a <;> cases b <;> first | exact ha.elim | exact hb.elim | skip
    simp [pk, PyData.eqv, PyData.eqvAll]
  | succ n ih =>
    intro a b ha hb
    have all : ∀ ds es : List D, (∀ d ∈ ds, tr n d) → (∀ d ∈ es, tr n d) → (PyData.eqvAll (pks ds) (pks es) = true ↔ ds = es) := by
      intro ds
      induction ds with
      | nil =>
        intro es _ _
        cases es <;> simp [pks, PyData.eqvAll]
      | cons d ds ih2 =>
        intro es h1 h2
        cases es with
        | nil => simp [pks, PyData.eqvAll]
        | cons e es =>
          rw [pks, pks, PyData.eqvAll, Bool.and_eq_true, ih d e (h1 d (by simp)) (h2 e (by simp)), ih2 es (fun z hz => h1 z (by simp [hz])) (fun z hz => h2 z (by simp [hz]))]
          simp
    cases a <;> cases b <;> first | exact False.elim ha | exact False.elim hb | skip
    · simp [pk, PyData.eqv, PyData.eqvAll]
    · simp [pk, PyData.eqv, PyData.eqvAll]
    · simp [pk, PyData.eqv, PyData.eqvAll]
    · simp [pk, PyData.eqv, PyData.eqvAll, all _ _ ha.2 hb.2]
theorem tlts_cons {d e : D} {ds es : List D} : d = e → decide (encs (d :: ds) < encs (e :: es)) = decide (encs ds < encs es) := by
  rintro rfl
  refine decide_eq_decide.mpr ?_
  rw [encs, encs, List.cons_lt_cons_iff]
  have app : ∀ p A B : List Nat, (p ++ A < p ++ B) ↔ A < B := by
    intro p A B
    induction p with
    | nil => rfl
    | cons a p ih => rw [List.cons_append, List.cons_append, List.cons_lt_cons_iff, ih]; simp
  rw [app]
  simp
theorem tlts_head {n : Nat} {d e : D} {ds es : List D} (hd : tr n d) (he : tr n e) (h : d ≠ e) : decide (encs (d :: ds) < encs (e :: es)) = tlt d e := by
  obtain ⟨k, hk⟩ := enc_df n d e hd he h
  rw [encs, encs, (Df.app hk).cons.lt]
  exact hk.lt.symm
theorem tlt_tup {ds es : List D} : tlt (.tup ds) (.tup es) = decide (encs ds < encs es) := by
  unfold tlt
  refine decide_eq_decide.mpr ?_
  rw [enc, enc, List.cons_lt_cons_iff]
  simp
theorem plt_pk : ∀ (n : Nat) (a b : D), tr n a → tr n b → plt (pk a) (pk b) = some (tlt a b) := by
  intro n
  have leaf : ∀ x y : Str, plt (pk (.str x)) (pk (.str y)) = some (tlt (.str x) (.str y)) := fun x y => by
    rw [tlt_str]
    by_cases h : x = y
    · subst h
      simp [pk, plt, pltA, PyData.eqv, List.lt_irrefl]
    · simp [pk, plt, pltA, PyData.eqv, h]
  induction n with
  | zero =>
    intro a b ha hb
    cases a <;> cases b <;> first | exact ha.elim | exact hb.elim | skip
    exact leaf _ _
  | succ n ih =>
    intro a b ha hb
    have all : ∀ ds es : List D, (∀ d ∈ ds, tr n d) → (∀ d ∈ es, tr n d) → pltA (pks ds) (pks es) = some (decide (encs ds < encs es)) := by
      intro ds
      induction ds with
      | nil =>
        intro es _ _
        cases es with
        | nil => simp [pks, pltA, encs, List.lt_irrefl]
        | cons e es =>
          have : decide (encs [] < encs (e :: es)) = true := (Df.lt (Df.head (by decide) : Df (encs []) (encs (e :: es)) _))
          rw [pks, pks, pltA, this]
      | cons d ds ih2 =>
        intro es h1 h2
        cases es with
        | nil =>
          have : decide (encs (d :: ds) < encs []) = false := (Df.lt (Df.head (by decide) : Df (encs (d :: ds)) (encs []) _))
          rw [pks, pks, pltA, this]
        | cons e es =>
          rw [pks, pks, pltA]
          by_cases h : d = e
          · rw [if_pos ((eqv_pk n d e (h1 d (by simp)) (h2 e (by simp))).mpr h), tlts_cons h]
            exact ih2 es (fun z hz => h1 z (by simp [hz])) (fun z hz => h2 z (by simp [hz]))
          · rw [if_neg (fun z => h ((eqv_pk n d e (h1 d (by simp)) (h2 e (by simp))).mp z)), tlts_head (h1 d (by simp)) (h2 e (by simp)) h]
            exact ih d e (h1 d (by simp)) (h2 e (by simp))
    cases a <;> cases b <;> first | exact False.elim ha | exact False.elim hb | skip
    · exact leaf _ _
    · rename_i x es
      have : tlt (.str x) (.tup es) = true := (Df.lt (Df.head (by decide) : Df (enc (.str x)) (enc (.tup es)) _))
      rw [this]
      simp [pk, plt, pltA, PyData.eqv]
    · rename_i ds x
      have : tlt (.tup ds) (.str x) = false := (Df.lt (Df.head (by decide) : Df (enc (.tup ds)) (enc (.str x)) _))
      rw [this]
      simp [pk, plt, pltA, PyData.eqv]
    · rename_i ds es
      rw [tlt_tup, ← all ds es ha.2 hb.2]
      simp only [pk, plt, pltA, PyData.eqv]
      by_cases h : PyData.eqvAll (pks ds) (pks es) = true
      · have e1 : ds = es := by
          have := (eqv_pk (n + 1) (.tup ds) (.tup es) ha hb).mp (by simp [pk, PyData.eqv, PyData.eqvAll, h])
          cases this; rfl
        subst e1
        simp [h, all ds ds ha.2 ha.2, List.lt_irrefl]
      · simp [h]
end Law

namespace Law
open PySem PySem.Spec PyProof.Rows L2 DL
theorem kds_cl : ∀ (n : Nat) (d : D), tr n d → cl (kd d) = true := by
  intro n
  induction n with
  | zero => intro d h; cases d <;> first | exact h.elim | rfl
  | succ n ih =>
    intro d h
    cases d <;> first | exact False.elim h | rfl | skip
    rename_i ds
    have : cls (kds ds) = true := by
      rw [kds_map]
      exact cls_of fun z hz => by
        obtain ⟨y, hy, rfl⟩ := List.mem_map.mp hz
        exact ih y (h.2 y hy)
    simp [kd, this]
theorem key_s : ∀ (n : Nat) (d : D), tr n d → ∀ {S : Sto} {Q : QE} {X : QX}, Q (kd d) S → OkE (callS (m_tree_key (n + 1)) [d] S) Q X := by
  intro n
  induction n with
  | zero =>
    intro d hd S Q X h
    refine OkE_call0 (by simp [tr_cl hd]) ?_
    show OkE (fnD 2 (b_tree_key (m_tree_key 0)) [d] []) _ _
    refine k_fn0 ?_
    unfold b_tree_key
    cases d <;> first | exact hd.elim | skip
    (repeat (first | (with_reducible first | refine k_seq ?_ | refine k_set ?_ | refine k_ret ?_ | refine k_c ?_ | refine k_call ?_ | refine k_aC ?_ | refine k_aN ?_ | refine k_2 ?_ | refine k_1 ?_ | refine k_tOf ?_ | refine k_sIf ?_ | refine k_B ?_ | refine k_tup ?_ | refine k_lst ?_ | refine k_new ?_ | refine k_addI ?_ | refine k_subI ?_ | refine k_eqI ?_ | refine k_neI ?_ | refine k_ltI ?_ | refine k_leI ?_ | refine k_gtI ?_ | refine k_geI ?_ | refine k_eqS ?_ | refine k_neS ?_ | refine k_for ?_ | refine k_forR ?_ | refine k_forG ?_ | refine k_pass ?_ | refine k_ex ?_ | refine k_retN ?_ | refine k_brk ?_ | refine k_cont ?_ | refine k_asg ?_ | refine k_setI ?_ | refine k_sl2 ?_ | refine k_slL ?_ | refine k_slH ?_ | refine k_app ?_ | refine k_ext ?_ | refine k_bk ?_ | refine k_no ?_ | refine k_tNo ?_ | refine k_tYs ?_ | refine k_if ?_ | refine k_gc ?_ | refine k_3B ?_ | refine k_lenT ?_ | refine k_lenL ?_ | refine k_lenC ?_ | refine k_tupT ?_ | refine k_tupL ?_ | refine k_lstL ?_ | refine k_lstC ?_ | refine k_lstT ?_ | refine k_ltS ?_ | refine k_m1 ?_ | refine k_m0 ?_ | refine k_cnt ?_ | refine k_min2 ?_ | refine k_eqB ?_ | refine k_neB ?_ | refine k_slT ?_ | refine k_slL' ?_ | refine k_slC ?_) | ((with_reducible apply k_v); rfl) | ((with_reducible refine k_bnd ?_ ?_); (first | omega | (simp; omega) | skip)) | ((with_reducible refine And.intro ?_ ?_); (first | rfl | exact Nat.le_of_ble_eq_true rfl | omega | (simp; done))) | ((with_reducible apply k_exe); rfl) | ((with_reducible first | apply k_condT | apply k_aug | apply k_lenO | apply k_tupO | apply k_isi | apply k_is | apply k_isn | apply k_ixT | apply k_ixL); rfl) | ((with_reducible apply k_condF); rfl) | ((with_reducible first | apply k_ixO | apply k_putI); rfl; rfl) | ((with_reducible first | apply k_lenS | apply k_mod | apply k_addS | apply k_mulI | apply k_addT | apply k_rep); (first | omega | (simp; omega) | (with_reducible assumption) | decide))))
    exact h
  | succ n ih =>
    intro d hd S Q X h
    refine OkE_call0 (by simp [tr_cl hd]) ?_
    show OkE (fnD 2 (b_tree_key (m_tree_key (n + 1))) [d] []) _ _
    refine k_fn0 ?_
    unfold b_tree_key
    have hc := kds_cl _ _ hd
    cases d <;> first | exact False.elim hd | skip
    · (repeat (first | (with_reducible first | refine k_seq ?_ | refine k_set ?_ | refine k_ret ?_ | refine k_c ?_ | refine k_call ?_ | refine k_aC ?_ | refine k_aN ?_ | refine k_2 ?_ | refine k_1 ?_ | refine k_tOf ?_ | refine k_sIf ?_ | refine k_B ?_ | refine k_tup ?_ | refine k_lst ?_ | refine k_new ?_ | refine k_addI ?_ | refine k_subI ?_ | refine k_eqI ?_ | refine k_neI ?_ | refine k_ltI ?_ | refine k_leI ?_ | refine k_gtI ?_ | refine k_geI ?_ | refine k_eqS ?_ | refine k_neS ?_ | refine k_for ?_ | refine k_forR ?_ | refine k_forG ?_ | refine k_pass ?_ | refine k_ex ?_ | refine k_retN ?_ | refine k_brk ?_ | refine k_cont ?_ | refine k_asg ?_ | refine k_setI ?_ | refine k_sl2 ?_ | refine k_slL ?_ | refine k_slH ?_ | refine k_app ?_ | refine k_ext ?_ | refine k_bk ?_ | refine k_no ?_ | refine k_tNo ?_ | refine k_tYs ?_ | refine k_if ?_ | refine k_gc ?_ | refine k_3B ?_ | refine k_lenT ?_ | refine k_lenL ?_ | refine k_lenC ?_ | refine k_tupT ?_ | refine k_tupL ?_ | refine k_lstL ?_ | refine k_lstC ?_ | refine k_lstT ?_ | refine k_ltS ?_ | refine k_m1 ?_ | refine k_m0 ?_ | refine k_cnt ?_ | refine k_min2 ?_ | refine k_eqB ?_ | refine k_neB ?_ | refine k_slT ?_ | refine k_slL' ?_ | refine k_slC ?_) | ((with_reducible apply k_v); rfl) | ((with_reducible refine k_bnd ?_ ?_); (first | omega | (simp; omega) | skip)) | ((with_reducible refine And.intro ?_ ?_); (first | rfl | exact Nat.le_of_ble_eq_true rfl | omega | (simp; done))) | ((with_reducible apply k_exe); rfl) | ((with_reducible first | apply k_condT | apply k_aug | apply k_lenO | apply k_tupO | apply k_isi | apply k_is | apply k_isn | apply k_ixT | apply k_ixL); rfl) | ((with_reducible apply k_condF); rfl) | ((with_reducible first | apply k_ixO | apply k_putI); rfl; rfl) | ((with_reducible first | apply k_lenS | apply k_mod | apply k_addS | apply k_mulI | apply k_addT | apply k_rep); (first | omega | (simp; omega) | (with_reducible assumption) | decide))))
      exact h
    · rename_i ds
      have hl := hd.1
      (repeat (first | (with_reducible first | refine k_seq ?_ | refine k_set ?_ | refine k_ret ?_ | refine k_c ?_ | refine k_call ?_ | refine k_aC ?_ | refine k_aN ?_ | refine k_2 ?_ | refine k_1 ?_ | refine k_tOf ?_ | refine k_sIf ?_ | refine k_B ?_ | refine k_tup ?_ | refine k_lst ?_ | refine k_new ?_ | refine k_addI ?_ | refine k_subI ?_ | refine k_eqI ?_ | refine k_neI ?_ | refine k_ltI ?_ | refine k_leI ?_ | refine k_gtI ?_ | refine k_geI ?_ | refine k_eqS ?_ | refine k_neS ?_ | refine k_for ?_ | refine k_forR ?_ | refine k_forG ?_ | refine k_pass ?_ | refine k_ex ?_ | refine k_retN ?_ | refine k_brk ?_ | refine k_cont ?_ | refine k_asg ?_ | refine k_setI ?_ | refine k_sl2 ?_ | refine k_slL ?_ | refine k_slH ?_ | refine k_app ?_ | refine k_ext ?_ | refine k_bk ?_ | refine k_no ?_ | refine k_tNo ?_ | refine k_tYs ?_ | refine k_if ?_ | refine k_gc ?_ | refine k_3B ?_ | refine k_lenT ?_ | refine k_lenL ?_ | refine k_lenC ?_ | refine k_tupT ?_ | refine k_tupL ?_ | refine k_lstL ?_ | refine k_lstC ?_ | refine k_lstT ?_ | refine k_ltS ?_ | refine k_m1 ?_ | refine k_m0 ?_ | refine k_cnt ?_ | refine k_min2 ?_ | refine k_eqB ?_ | refine k_neB ?_ | refine k_slT ?_ | refine k_slL' ?_ | refine k_slC ?_) | ((with_reducible apply k_v); rfl) | ((with_reducible refine k_bnd ?_ ?_); (first | omega | (simp; omega) | skip)) | ((with_reducible refine And.intro ?_ ?_); (first | rfl | exact Nat.le_of_ble_eq_true rfl | omega | (simp; done))) | ((with_reducible apply k_exe); rfl) | ((with_reducible first | apply k_condT | apply k_aug | apply k_lenO | apply k_tupO | apply k_isi | apply k_is | apply k_isn | apply k_ixT | apply k_ixL); rfl) | ((with_reducible apply k_condF); rfl) | ((with_reducible first | apply k_ixO | apply k_putI); rfl; rfl) | ((with_reducible first | apply k_lenS | apply k_mod | apply k_addS | apply k_mulI | apply k_addT | apply k_rep); (first | omega | (simp; omega) | (with_reducible assumption) | decide))))
      refine k_lcMap (f := kd) ?_
      (repeat (first | (with_reducible first | refine k_seq ?_ | refine k_set ?_ | refine k_ret ?_ | refine k_c ?_ | refine k_call ?_ | refine k_aC ?_ | refine k_aN ?_ | refine k_2 ?_ | refine k_1 ?_ | refine k_tOf ?_ | refine k_sIf ?_ | refine k_B ?_ | refine k_tup ?_ | refine k_lst ?_ | refine k_new ?_ | refine k_addI ?_ | refine k_subI ?_ | refine k_eqI ?_ | refine k_neI ?_ | refine k_ltI ?_ | refine k_leI ?_ | refine k_gtI ?_ | refine k_geI ?_ | refine k_eqS ?_ | refine k_neS ?_ | refine k_for ?_ | refine k_forR ?_ | refine k_forG ?_ | refine k_pass ?_ | refine k_ex ?_ | refine k_retN ?_ | refine k_brk ?_ | refine k_cont ?_ | refine k_asg ?_ | refine k_setI ?_ | refine k_sl2 ?_ | refine k_slL ?_ | refine k_slH ?_ | refine k_app ?_ | refine k_ext ?_ | refine k_bk ?_ | refine k_no ?_ | refine k_tNo ?_ | refine k_tYs ?_ | refine k_if ?_ | refine k_gc ?_ | refine k_3B ?_ | refine k_lenT ?_ | refine k_lenL ?_ | refine k_lenC ?_ | refine k_tupT ?_ | refine k_tupL ?_ | refine k_lstL ?_ | refine k_lstC ?_ | refine k_lstT ?_ | refine k_ltS ?_ | refine k_m1 ?_ | refine k_m0 ?_ | refine k_cnt ?_ | refine k_min2 ?_ | refine k_eqB ?_ | refine k_neB ?_ | refine k_slT ?_ | refine k_slL' ?_ | refine k_slC ?_) | ((with_reducible apply k_v); rfl) | ((with_reducible refine k_bnd ?_ ?_); (first | omega | (simp; omega) | skip)) | ((with_reducible refine And.intro ?_ ?_); (first | rfl | exact Nat.le_of_ble_eq_true rfl | omega | (simp; done))) | ((with_reducible apply k_exe); rfl) | ((with_reducible first | apply k_condT | apply k_aug | apply k_lenO | apply k_tupO | apply k_isi | apply k_is | apply k_isn | apply k_ixT | apply k_ixL); rfl) | ((with_reducible apply k_condF); rfl) | ((with_reducible first | apply k_ixO | apply k_putI); rfl; rfl) | ((with_reducible first | apply k_lenS | apply k_mod | apply k_addS | apply k_mulI | apply k_addT | apply k_rep); (first | omega | (simp; omega) | (with_reducible assumption) | decide))))
      refine ⟨fun z hz => ⟨_, rfl, ?_⟩, ?_⟩
      · (repeat (first | (with_reducible first | refine k_seq ?_ | refine k_set ?_ | refine k_ret ?_ | refine k_c ?_ | refine k_call ?_ | refine k_aC ?_ | refine k_aN ?_ | refine k_2 ?_ | refine k_1 ?_ | refine k_tOf ?_ | refine k_sIf ?_ | refine k_B ?_ | refine k_tup ?_ | refine k_lst ?_ | refine k_new ?_ | refine k_addI ?_ | refine k_subI ?_ | refine k_eqI ?_ | refine k_neI ?_ | refine k_ltI ?_ | refine k_leI ?_ | refine k_gtI ?_ | refine k_geI ?_ | refine k_eqS ?_ | refine k_neS ?_ | refine k_for ?_ | refine k_forR ?_ | refine k_forG ?_ | refine k_pass ?_ | refine k_ex ?_ | refine k_retN ?_ | refine k_brk ?_ | refine k_cont ?_ | refine k_asg ?_ | refine k_setI ?_ | refine k_sl2 ?_ | refine k_slL ?_ | refine k_slH ?_ | refine k_app ?_ | refine k_ext ?_ | refine k_bk ?_ | refine k_no ?_ | refine k_tNo ?_ | refine k_tYs ?_ | refine k_if ?_ | refine k_gc ?_ | refine k_3B ?_ | refine k_lenT ?_ | refine k_lenL ?_ | refine k_lenC ?_ | refine k_tupT ?_ | refine k_tupL ?_ | refine k_lstL ?_ | refine k_lstC ?_ | refine k_lstT ?_ | refine k_ltS ?_ | refine k_m1 ?_ | refine k_m0 ?_ | refine k_cnt ?_ | refine k_min2 ?_ | refine k_eqB ?_ | refine k_neB ?_ | refine k_slT ?_ | refine k_slL' ?_ | refine k_slC ?_) | ((with_reducible apply k_v); rfl) | ((with_reducible refine k_bnd ?_ ?_); (first | omega | (simp; omega) | skip)) | ((with_reducible refine And.intro ?_ ?_); (first | rfl | exact Nat.le_of_ble_eq_true rfl | omega | (simp; done))) | ((with_reducible apply k_exe); rfl) | ((with_reducible first | apply k_condT | apply k_aug | apply k_lenO | apply k_tupO | apply k_isi | apply k_is | apply k_isn | apply k_ixT | apply k_ixL); rfl) | ((with_reducible apply k_condF); rfl) | ((with_reducible first | apply k_ixO | apply k_putI); rfl; rfl) | ((with_reducible first | apply k_lenS | apply k_mod | apply k_addS | apply k_mulI | apply k_addT | apply k_rep); (first | omega | (simp; omega) | (with_reducible assumption) | decide))))
        refine ih z (hd.2 z hz) ?_
        exact ⟨rfl, rfl⟩
      rw [← kds_map]
      (repeat (first | (with_reducible first | refine k_seq ?_ | refine k_set ?_ | refine k_ret ?_ | refine k_c ?_ | refine k_call ?_ | refine k_aC ?_ | refine k_aN ?_ | refine k_2 ?_ | refine k_1 ?_ | refine k_tOf ?_ | refine k_sIf ?_ | refine k_B ?_ | refine k_tup ?_ | refine k_lst ?_ | refine k_new ?_ | refine k_addI ?_ | refine k_subI ?_ | refine k_eqI ?_ | refine k_neI ?_ | refine k_ltI ?_ | refine k_leI ?_ | refine k_gtI ?_ | refine k_geI ?_ | refine k_eqS ?_ | refine k_neS ?_ | refine k_for ?_ | refine k_forR ?_ | refine k_forG ?_ | refine k_pass ?_ | refine k_ex ?_ | refine k_retN ?_ | refine k_brk ?_ | refine k_cont ?_ | refine k_asg ?_ | refine k_setI ?_ | refine k_sl2 ?_ | refine k_slL ?_ | refine k_slH ?_ | refine k_app ?_ | refine k_ext ?_ | refine k_bk ?_ | refine k_no ?_ | refine k_tNo ?_ | refine k_tYs ?_ | refine k_if ?_ | refine k_gc ?_ | refine k_3B ?_ | refine k_lenT ?_ | refine k_lenL ?_ | refine k_lenC ?_ | refine k_tupT ?_ | refine k_tupL ?_ | refine k_lstL ?_ | refine k_lstC ?_ | refine k_lstT ?_ | refine k_ltS ?_ | refine k_m1 ?_ | refine k_m0 ?_ | refine k_cnt ?_ | refine k_min2 ?_ | refine k_eqB ?_ | refine k_neB ?_ | refine k_slT ?_ | refine k_slL' ?_ | refine k_slC ?_) | ((with_reducible apply k_v); rfl) | ((with_reducible refine k_bnd ?_ ?_); (first | omega | (simp; omega) | skip)) | ((with_reducible refine And.intro ?_ ?_); (first | rfl | exact Nat.le_of_ble_eq_true rfl | omega | (simp; done))) | ((with_reducible apply k_exe); rfl) | ((with_reducible first | apply k_condT | apply k_aug | apply k_lenO | apply k_tupO | apply k_isi | apply k_is | apply k_isn | apply k_ixT | apply k_ixL); rfl) | ((with_reducible apply k_condF); rfl) | ((with_reducible first | apply k_ixO | apply k_putI); rfl; rfl) | ((with_reducible first | apply k_lenS | apply k_mod | apply k_addS | apply k_mulI | apply k_addT | apply k_rep); (first | omega | (simp; omega) | (with_reducible assumption) | decide))))
      exact ⟨hc, rfl, hc, h⟩
theorem is_ahead_s {n : Nat} {a b : D} (ha : tr n a) (hb : tr n b) (hn : n ≤ 30) {S : Sto} {Q : QE} {X : QX} (h : Q (.bl (tlt a b)) S) : OkE (callS m_is_ahead [a, b] S) Q X := by
  refine OkE_call0 (by simp [tr_cl ha, tr_cl hb]) ?_
  unfold m_is_ahead b_is_ahead
  refine k_fn0 ?_
  (repeat (first | (with_reducible first | refine k_seq ?_ | refine k_set ?_ | refine k_ret ?_ | refine k_c ?_ | refine k_call ?_ | refine k_aC ?_ | refine k_aN ?_ | refine k_2 ?_ | refine k_1 ?_ | refine k_tOf ?_ | refine k_sIf ?_ | refine k_B ?_ | refine k_tup ?_ | refine k_lst ?_ | refine k_new ?_ | refine k_addI ?_ | refine k_subI ?_ | refine k_eqI ?_ | refine k_neI ?_ | refine k_ltI ?_ | refine k_leI ?_ | refine k_gtI ?_ | refine k_geI ?_ | refine k_eqS ?_ | refine k_neS ?_ | refine k_for ?_ | refine k_forR ?_ | refine k_forG ?_ | refine k_pass ?_ | refine k_ex ?_ | refine k_retN ?_ | refine k_brk ?_ | refine k_cont ?_ | refine k_asg ?_ | refine k_setI ?_ | refine k_sl2 ?_ | refine k_slL ?_ | refine k_slH ?_ | refine k_app ?_ | refine k_ext ?_ | refine k_bk ?_ | refine k_no ?_ | refine k_tNo ?_ | refine k_tYs ?_ | refine k_if ?_ | refine k_gc ?_ | refine k_3B ?_ | refine k_lenT ?_ | refine k_lenL ?_ | refine k_lenC ?_ | refine k_tupT ?_ | refine k_tupL ?_ | refine k_lstL ?_ | refine k_lstC ?_ | refine k_lstT ?_ | refine k_ltS ?_ | refine k_m1 ?_ | refine k_m0 ?_ | refine k_cnt ?_ | refine k_min2 ?_ | refine k_eqB ?_ | refine k_neB ?_ | refine k_slT ?_ | refine k_slL' ?_ | refine k_slC ?_) | ((with_reducible apply k_v); rfl) | ((with_reducible refine k_bnd ?_ ?_); (first | omega | (simp; omega) | skip)) | ((with_reducible refine And.intro ?_ ?_); (first | rfl | exact Nat.le_of_ble_eq_true rfl | omega | (simp; done))) | ((with_reducible apply k_exe); rfl) | ((with_reducible first | apply k_condT | apply k_aug | apply k_lenO | apply k_tupO | apply k_isi | apply k_is | apply k_isn | apply k_ixT | apply k_ixL); rfl) | ((with_reducible apply k_condF); rfl) | ((with_reducible first | apply k_ixO | apply k_putI); rfl; rfl) | ((with_reducible first | apply k_lenS | apply k_mod | apply k_addS | apply k_mulI | apply k_addT | apply k_rep); (first | omega | (simp; omega) | (with_reducible assumption) | decide))))
  refine key_s 59 a (tr_mono ha (by omega)) ?_
  (repeat (first | (with_reducible first | refine k_seq ?_ | refine k_set ?_ | refine k_ret ?_ | refine k_c ?_ | refine k_call ?_ | refine k_aC ?_ | refine k_aN ?_ | refine k_2 ?_ | refine k_1 ?_ | refine k_tOf ?_ | refine k_sIf ?_ | refine k_B ?_ | refine k_tup ?_ | refine k_lst ?_ | refine k_new ?_ | refine k_addI ?_ | refine k_subI ?_ | refine k_eqI ?_ | refine k_neI ?_ | refine k_ltI ?_ | refine k_leI ?_ | refine k_gtI ?_ | refine k_geI ?_ | refine k_eqS ?_ | refine k_neS ?_ | refine k_for ?_ | refine k_forR ?_ | refine k_forG ?_ | refine k_pass ?_ | refine k_ex ?_ | refine k_retN ?_ | refine k_brk ?_ | refine k_cont ?_ | refine k_asg ?_ | refine k_setI ?_ | refine k_sl2 ?_ | refine k_slL ?_ | refine k_slH ?_ | refine k_app ?_ | refine k_ext ?_ | refine k_bk ?_ | refine k_no ?_ | refine k_tNo ?_ | refine k_tYs ?_ | refine k_if ?_ | refine k_gc ?_ | refine k_3B ?_ | refine k_lenT ?_ | refine k_lenL ?_ | refine k_lenC ?_ | refine k_tupT ?_ | refine k_tupL ?_ | refine k_lstL ?_ | refine k_lstC ?_ | refine k_lstT ?_ | refine k_ltS ?_ | refine k_m1 ?_ | refine k_m0 ?_ | refine k_cnt ?_ | refine k_min2 ?_ | refine k_eqB ?_ | refine k_neB ?_ | refine k_slT ?_ | refine k_slL' ?_ | refine k_slC ?_) | ((with_reducible apply k_v); rfl) | ((with_reducible refine k_bnd ?_ ?_); (first | omega | (simp; omega) | skip)) | ((with_reducible refine And.intro ?_ ?_); (first | rfl | exact Nat.le_of_ble_eq_true rfl | omega | (simp; done))) | ((with_reducible apply k_exe); rfl) | ((with_reducible first | apply k_condT | apply k_aug | apply k_lenO | apply k_tupO | apply k_isi | apply k_is | apply k_isn | apply k_ixT | apply k_ixL); rfl) | ((with_reducible apply k_condF); rfl) | ((with_reducible first | apply k_ixO | apply k_putI); rfl; rfl) | ((with_reducible first | apply k_lenS | apply k_mod | apply k_addS | apply k_mulI | apply k_addT | apply k_rep); (first | omega | (simp; omega) | (with_reducible assumption) | decide))))
  refine key_s 59 b (tr_mono hb (by omega)) ?_
  obtain ⟨p1, p2, p3⟩ := pd_kd n a ha
  obtain ⟨q1, q2, q3⟩ := pd_kd n b hb
  have h1 : ∀ (n : Nat) (d : D), tr n d → ∃ ds, kd d = .tup ds := fun n d hd => by
    cases n <;> cases d <;> first | exact False.elim hd | exact ⟨_, rfl⟩
  have e1 : gLtP [] (kd a) (kd b) = some (.bl (tlt a b)) := by
    obtain ⟨as, ea⟩ := h1 n a ha
    obtain ⟨bs, eb⟩ := h1 n b hb
    have s1 : SeqAt.shaped (pk a) = true := by unfold SeqAt.shaped; rw [p2, decide_eq_true (by omega)]; rfl
    have s2 : SeqAt.shaped (pk b) = true := by unfold SeqAt.shaped; rw [q2, decide_eq_true (by omega)]; rfl
    have e3 : gLt [] (kd a) (kd b) = none := by rw [ea, eb]; rfl
    have e4 : view [] (kd a) = kd a := by rw [ea]; rfl
    have e5 : view [] (kd b) = kd b := by rw [eb]; rfl
    unfold gLtP
    rw [e3, e4, e5, p1, q1]
    simp [s1, s2, plt_pk n a b ha hb]
  refine k_opt e1 ?_
  (repeat (first | (with_reducible first | refine k_seq ?_ | refine k_set ?_ | refine k_ret ?_ | refine k_c ?_ | refine k_call ?_ | refine k_aC ?_ | refine k_aN ?_ | refine k_2 ?_ | refine k_1 ?_ | refine k_tOf ?_ | refine k_sIf ?_ | refine k_B ?_ | refine k_tup ?_ | refine k_lst ?_ | refine k_new ?_ | refine k_addI ?_ | refine k_subI ?_ | refine k_eqI ?_ | refine k_neI ?_ | refine k_ltI ?_ | refine k_leI ?_ | refine k_gtI ?_ | refine k_geI ?_ | refine k_eqS ?_ | refine k_neS ?_ | refine k_for ?_ | refine k_forR ?_ | refine k_forG ?_ | refine k_pass ?_ | refine k_ex ?_ | refine k_retN ?_ | refine k_brk ?_ | refine k_cont ?_ | refine k_asg ?_ | refine k_setI ?_ | refine k_sl2 ?_ | refine k_slL ?_ | refine k_slH ?_ | refine k_app ?_ | refine k_ext ?_ | refine k_bk ?_ | refine k_no ?_ | refine k_tNo ?_ | refine k_tYs ?_ | refine k_if ?_ | refine k_gc ?_ | refine k_3B ?_ | refine k_lenT ?_ | refine k_lenL ?_ | refine k_lenC ?_ | refine k_tupT ?_ | refine k_tupL ?_ | refine k_lstL ?_ | refine k_lstC ?_ | refine k_lstT ?_ | refine k_ltS ?_ | refine k_m1 ?_ | refine k_m0 ?_ | refine k_cnt ?_ | refine k_min2 ?_ | refine k_eqB ?_ | refine k_neB ?_ | refine k_slT ?_ | refine k_slL' ?_ | refine k_slC ?_) | ((with_reducible apply k_v); rfl) | ((with_reducible refine k_bnd ?_ ?_); (first | omega | (simp; omega) | skip)) | ((with_reducible refine And.intro ?_ ?_); (first | rfl | exact Nat.le_of_ble_eq_true rfl | omega | (simp; done))) | ((with_reducible apply k_exe); rfl) | ((with_reducible first | apply k_condT | apply k_aug | apply k_lenO | apply k_tupO | apply k_isi | apply k_is | apply k_isn | apply k_ixT | apply k_ixL); rfl) | ((with_reducible apply k_condF); rfl) | ((with_reducible first | apply k_ixO | apply k_putI); rfl; rfl) | ((with_reducible first | apply k_lenS | apply k_mod | apply k_addS | apply k_mulI | apply k_addT | apply k_rep); (first | omega | (simp; omega) | (with_reducible assumption) | decide))))
  exact h
/-! ### texts -/
theorem esc_rep (x : Str) : (Txt.replace (Txt.replace x "\\" "\\\\") "\"" "\\\"").cps.toList = esc x.cps.toList := by
  have h1 : ("\\" : Str).cps.toList = [92] := rfl
  have h2 : ("\\\\" : Str).cps.toList = [92, 92] := rfl
  have h3 : ("\"" : Str).cps.toList = [34] := rfl
  have h4 : ("\\\"" : Str).cps.toList = [92, 34] := rfl
  rw [StrLaws.replace_list (by decide), StrLaws.replace_list (by decide), h1, h2, h3, h4, repl1, repl1, List.flatMap_assoc]
  unfold esc
  congr 1
  funext c
  unfold esc1
  by_cases a1 : c = 92
  · subst a1; rfl
  · by_cases a2 : c = 34
    · subst a2; rfl
    · simp [a1, a2]
theorem flat_len {f : Nat → List Nat} (hf : ∀ c, (f c).length ≤ 2) : ∀ x : List Nat, (x.flatMap f).length ≤ 2 * x.length
  | [] => Nat.le_refl _
  | c :: r => by
    have := flat_len hf r
    have := hf c
    rw [List.flatMap_cons, List.length_append, List.length_cons]; omega
theorem rep_len (x : Str) : (Txt.replace x "\\" "\\\\").length ≤ 2 * x.length := by
  rw [slen, slen, StrLaws.replace_list (by decide), show ("\\" : Str).cps.toList = [92] from rfl, show ("\\\\" : Str).cps.toList = [92, 92] from rfl, repl1]
  exact flat_len (fun c => by split <;> simp) _
theorem esc_len (x : List Nat) : (esc x).length ≤ 2 * x.length := flat_len (fun c => by unfold esc1; split <;> (try split) <;> simp) x
theorem text_str (r : MF) {x : Str} (hx : x.length ≤ 1000) {Q : QE} {X : QX} (h : Q (.str ⟨(tt (.str x)).toArray⟩) []) : OkE (fnD 2 (b_tree_text r) [.str x] []) Q X := by
  refine k_fn0 ?_
  unfold b_tree_text
  have h1 : ("\\\\" : Str).length = 2 := rfl
  have h2 : ("\\\"" : Str).length = 2 := rfl
  have h3 : ("\"" : Str).length = 1 := rfl
  have h4 := rep_len x
  have h5 : (Txt.replace (Txt.replace x "\\" "\\\\") "\"" "\\\"").length ≤ 2 * x.length := by
    rw [slen, esc_rep, slen]
    exact esc_len _
  (repeat (first | (with_reducible first | refine k_seq ?_ | refine k_set ?_ | refine k_ret ?_ | refine k_c ?_ | refine k_call ?_ | refine k_aC ?_ | refine k_aN ?_ | refine k_2 ?_ | refine k_1 ?_ | refine k_tOf ?_ | refine k_sIf ?_ | refine k_B ?_ | refine k_tup ?_ | refine k_lst ?_ | refine k_new ?_ | refine k_addI ?_ | refine k_subI ?_ | refine k_eqI ?_ | refine k_neI ?_ | refine k_ltI ?_ | refine k_leI ?_ | refine k_gtI ?_ | refine k_geI ?_ | refine k_eqS ?_ | refine k_neS ?_ | refine k_for ?_ | refine k_forR ?_ | refine k_forG ?_ | refine k_pass ?_ | refine k_ex ?_ | refine k_retN ?_ | refine k_brk ?_ | refine k_cont ?_ | refine k_asg ?_ | refine k_setI ?_ | refine k_sl2 ?_ | refine k_slL ?_ | refine k_slH ?_ | refine k_app ?_ | refine k_ext ?_ | refine k_bk ?_ | refine k_no ?_ | refine k_tNo ?_ | refine k_tYs ?_ | refine k_if ?_ | refine k_gc ?_ | refine k_3B ?_ | refine k_lenT ?_ | refine k_lenL ?_ | refine k_lenC ?_ | refine k_tupT ?_ | refine k_tupL ?_ | refine k_lstL ?_ | refine k_lstC ?_ | refine k_lstT ?_ | refine k_ltS ?_ | refine k_m1 ?_ | refine k_m0 ?_ | refine k_cnt ?_ | refine k_min2 ?_ | refine k_eqB ?_ | refine k_neB ?_ | refine k_slT ?_ | refine k_slL' ?_ | refine k_slC ?_) | ((with_reducible apply k_v); rfl) | ((with_reducible refine k_bnd ?_ ?_); (first | omega | (simp; omega) | skip)) | ((with_reducible refine And.intro ?_ ?_); (first | rfl | exact Nat.le_of_ble_eq_true rfl | omega | (simp; done))) | ((with_reducible apply k_exe); rfl) | ((with_reducible first | apply k_condT | apply k_aug | apply k_lenO | apply k_tupO | apply k_isi | apply k_is | apply k_isn | apply k_ixT | apply k_ixL); rfl) | ((with_reducible apply k_condF); rfl) | ((with_reducible first | apply k_ixO | apply k_putI); rfl; rfl) | ((with_reducible first | apply k_lenS | apply k_mod | apply k_addS | apply k_mulI | apply k_addT | apply k_rep); (first | omega | (simp; omega) | (with_reducible assumption) | decide))))
  refine k_rep (by rw [h1]; omega) ?_
  refine k_rep (by rw [h2]; omega) ?_
  refine k_addS (by rw [h3]; omega) ?_
  (repeat (first | (with_reducible first | refine k_seq ?_ | refine k_set ?_ | refine k_ret ?_ | refine k_c ?_ | refine k_call ?_ | refine k_aC ?_ | refine k_aN ?_ | refine k_2 ?_ | refine k_1 ?_ | refine k_tOf ?_ | refine k_sIf ?_ | refine k_B ?_ | refine k_tup ?_ | refine k_lst ?_ | refine k_new ?_ | refine k_addI ?_ | refine k_subI ?_ | refine k_eqI ?_ | refine k_neI ?_ | refine k_ltI ?_ | refine k_leI ?_ | refine k_gtI ?_ | refine k_geI ?_ | refine k_eqS ?_ | refine k_neS ?_ | refine k_for ?_ | refine k_forR ?_ | refine k_forG ?_ | refine k_pass ?_ | refine k_ex ?_ | refine k_retN ?_ | refine k_brk ?_ | refine k_cont ?_ | refine k_asg ?_ | refine k_setI ?_ | refine k_sl2 ?_ | refine k_slL ?_ | refine k_slH ?_ | refine k_app ?_ | refine k_ext ?_ | refine k_bk ?_ | refine k_no ?_ | refine k_tNo ?_ | refine k_tYs ?_ | refine k_if ?_ | refine k_gc ?_ | refine k_3B ?_ | refine k_lenT ?_ | refine k_lenL ?_ | refine k_lenC ?_ | refine k_tupT ?_ | refine k_tupL ?_ | refine k_lstL ?_ | refine k_lstC ?_ | refine k_lstT ?_ | refine k_ltS ?_ | refine k_m1 ?_ | refine k_m0 ?_ | refine k_cnt ?_ | refine k_min2 ?_ | refine k_eqB ?_ | refine k_neB ?_ | refine k_slT ?_ | refine k_slL' ?_ | refine k_slC ?_) | ((with_reducible apply k_v); rfl) | ((with_reducible refine k_bnd ?_ ?_); (first | omega | (simp; omega) | skip)) | ((with_reducible refine And.intro ?_ ?_); (first | rfl | exact Nat.le_of_ble_eq_true rfl | omega | (simp; done))) | ((with_reducible apply k_exe); rfl) | ((with_reducible first | apply k_condT | apply k_aug | apply k_lenO | apply k_tupO | apply k_isi | apply k_is | apply k_isn | apply k_ixT | apply k_ixL); rfl) | ((with_reducible apply k_condF); rfl) | ((with_reducible first | apply k_ixO | apply k_putI); rfl; rfl) | ((with_reducible first | apply k_lenS | apply k_mod | apply k_addS | apply k_mulI | apply k_addT | apply k_rep); (first | omega | (simp; omega) | (with_reducible assumption) | decide))))
  have e : "\"" ++ Txt.replace (Txt.replace x "\\" "\\\\") "\"" "\\\"" ++ "\"" = (⟨(tt (.str x)).toArray⟩ : Str) := by
    refine str_ext ?_
    rw [app_list, app_list, esc_rep]
    rfl
  rw [e]
  exact h
theorem ttr_sum : ∀ ds : List D, ((ds.map fun d => (Str.mk (tt d).toArray)).map (·.length)).sum + ds.length = (ttr ds).length
  | [] => rfl
  | d :: ds => by
    have := ttr_sum ds
    have h1 : (Str.mk (tt d).toArray).length = (tt d).length := by rw [slen]
    rw [List.map_cons, List.map_cons, List.sum_cons, List.length_cons, ttr, List.length_cons, List.length_append, ← this, h1]
    omega
theorem ttr_mem : ∀ {ds : List D} {d : D}, d ∈ ds → (tt d).length + 1 ≤ (ttr ds).length
  | e :: ds, d, h => by
    rw [ttr, List.length_cons, List.length_append]
    rcases List.mem_cons.mp h with rfl | h
    · omega
    · have := ttr_mem h
      omega
theorem tts_len : ∀ ds : List D, (ttr ds).length ≤ (tts ds).length + 1
  | [] => Nat.zero_le _
  | d :: ds => by rw [tts, ttr, List.length_cons, List.length_append]; exact Nat.le_refl _
theorem join_tts (ds : List D) : (Txt.join " " (ds.map fun d => (Str.mk (tt d).toArray))).cps.toList = tts ds := by
  cases ds with
  | nil => rfl
  | cons d ds =>
    rw [List.map_cons, join_cons]
    have h1 : (" " : Str).cps.toList = [32] := rfl
    rw [h1]
    have : ∀ ds : List D, StrLaws.glueL [32] (ds.map fun d => (Str.mk (tt d).toArray)) = ttr ds := by
      intro ds
      induction ds with
      | nil => rfl
      | cons d ds ih => rw [List.map_cons, StrLaws.glueL, ih]; rfl
    rw [StrLaws.glueT, this]
    rfl
theorem text_tree_s : ∀ (n : Nat) (d : D), tr n d → (tt d).length ≤ 1000000 → ∀ {S : Sto} {Q : QE} {X : QX}, Q (.str ⟨(tt d).toArray⟩) S → OkE (callS (m_tree_text (n + 1)) [d] S) Q X := by
  intro n
  induction n with
  | zero =>
    intro d hd hl S Q X h
    refine OkE_call0 (by simp [tr_cl hd]) ?_
    cases d <;> first | exact hd.elim | skip
    exact text_str _ hd.1 ⟨rfl, rfl, h⟩
  | succ n ih =>
    intro d hd hl S Q X h
    refine OkE_call0 (by simp [tr_cl hd]) ?_
    cases d <;> first | exact False.elim hd | skip
    · exact text_str _ hd.1 ⟨rfl, rfl, h⟩
    · rename_i ds
      show OkE (fnD 2 (b_tree_text (m_tree_text (n + 1))) [.tup ds] []) _ _
      refine k_fn0 ?_
      unfold b_tree_text
      have hl2 : (tts ds).length + 2 ≤ 1000000 := by
        rw [tt, List.length_cons, List.length_append] at hl
        simpa using hl
      have hl3 := tts_len ds
      have hl4 := ttr_sum ds
      have hl5 := hd.1
      (repeat (first | (with_reducible first | refine k_seq ?_ | refine k_set ?_ | refine k_ret ?_ | refine k_c ?_ | refine k_call ?_ | refine k_aC ?_ | refine k_aN ?_ | refine k_2 ?_ | refine k_1 ?_ | refine k_tOf ?_ | refine k_sIf ?_ | refine k_B ?_ | refine k_tup ?_ | refine k_lst ?_ | refine k_new ?_ | refine k_addI ?_ | refine k_subI ?_ | refine k_eqI ?_ | refine k_neI ?_ | refine k_ltI ?_ | refine k_leI ?_ | refine k_gtI ?_ | refine k_geI ?_ | refine k_eqS ?_ | refine k_neS ?_ | refine k_for ?_ | refine k_forR ?_ | refine k_forG ?_ | refine k_pass ?_ | refine k_ex ?_ | refine k_retN ?_ | refine k_brk ?_ | refine k_cont ?_ | refine k_asg ?_ | refine k_setI ?_ | refine k_sl2 ?_ | refine k_slL ?_ | refine k_slH ?_ | refine k_app ?_ | refine k_ext ?_ | refine k_bk ?_ | refine k_no ?_ | refine k_tNo ?_ | refine k_tYs ?_ | refine k_if ?_ | refine k_gc ?_ | refine k_3B ?_ | refine k_lenT ?_ | refine k_lenL ?_ | refine k_lenC ?_ | refine k_tupT ?_ | refine k_tupL ?_ | refine k_lstL ?_ | refine k_lstC ?_ | refine k_lstT ?_ | refine k_ltS ?_ | refine k_m1 ?_ | refine k_m0 ?_ | refine k_cnt ?_ | refine k_min2 ?_ | refine k_eqB ?_ | refine k_neB ?_ | refine k_slT ?_ | refine k_slL' ?_ | refine k_slC ?_) | ((with_reducible apply k_v); rfl) | ((with_reducible refine k_bnd ?_ ?_); (first | omega | (simp; omega) | skip)) | ((with_reducible refine And.intro ?_ ?_); (first | rfl | exact Nat.le_of_ble_eq_true rfl | omega | (simp; done))) | ((with_reducible apply k_exe); rfl) | ((with_reducible first | apply k_condT | apply k_aug | apply k_lenO | apply k_tupO | apply k_isi | apply k_is | apply k_isn | apply k_ixT | apply k_ixL); rfl) | ((with_reducible apply k_condF); rfl) | ((with_reducible first | apply k_ixO | apply k_putI); rfl; rfl) | ((with_reducible first | apply k_lenS | apply k_mod | apply k_addS | apply k_mulI | apply k_addT | apply k_rep); (first | omega | (simp; omega) | (with_reducible assumption) | decide))))
      refine k_lcMap (f := fun d => .str ⟨(tt d).toArray⟩) ?_
      (repeat (first | (with_reducible first | refine k_seq ?_ | refine k_set ?_ | refine k_ret ?_ | refine k_c ?_ | refine k_call ?_ | refine k_aC ?_ | refine k_aN ?_ | refine k_2 ?_ | refine k_1 ?_ | refine k_tOf ?_ | refine k_sIf ?_ | refine k_B ?_ | refine k_tup ?_ | refine k_lst ?_ | refine k_new ?_ | refine k_addI ?_ | refine k_subI ?_ | refine k_eqI ?_ | refine k_neI ?_ | refine k_ltI ?_ | refine k_leI ?_ | refine k_gtI ?_ | refine k_geI ?_ | refine k_eqS ?_ | refine k_neS ?_ | refine k_for ?_ | refine k_forR ?_ | refine k_forG ?_ | refine k_pass ?_ | refine k_ex ?_ | refine k_retN ?_ | refine k_brk ?_ | refine k_cont ?_ | refine k_asg ?_ | refine k_setI ?_ | refine k_sl2 ?_ | refine k_slL ?_ | refine k_slH ?_ | refine k_app ?_ | refine k_ext ?_ | refine k_bk ?_ | refine k_no ?_ | refine k_tNo ?_ | refine k_tYs ?_ | refine k_if ?_ | refine k_gc ?_ | refine k_3B ?_ | refine k_lenT ?_ | refine k_lenL ?_ | refine k_lenC ?_ | refine k_tupT ?_ | refine k_tupL ?_ | refine k_lstL ?_ | refine k_lstC ?_ | refine k_lstT ?_ | refine k_ltS ?_ | refine k_m1 ?_ | refine k_m0 ?_ | refine k_cnt ?_ | refine k_min2 ?_ | refine k_eqB ?_ | refine k_neB ?_ | refine k_slT ?_ | refine k_slL' ?_ | refine k_slC ?_) | ((with_reducible apply k_v); rfl) | ((with_reducible refine k_bnd ?_ ?_); (first | omega | (simp; omega) | skip)) | ((with_reducible refine And.intro ?_ ?_); (first | rfl | exact Nat.le_of_ble_eq_true rfl | omega | (simp; done))) | ((with_reducible apply k_exe); rfl) | ((with_reducible first | apply k_condT | apply k_aug | apply k_lenO | apply k_tupO | apply k_isi | apply k_is | apply k_isn | apply k_ixT | apply k_ixL); rfl) | ((with_reducible apply k_condF); rfl) | ((with_reducible first | apply k_ixO | apply k_putI); rfl; rfl) | ((with_reducible first | apply k_lenS | apply k_mod | apply k_addS | apply k_mulI | apply k_addT | apply k_rep); (first | omega | (simp; omega) | (with_reducible assumption) | decide))))
      refine ⟨fun z hz => ⟨_, rfl, ?_⟩, ?_⟩
      · (repeat (first | (with_reducible first | refine k_seq ?_ | refine k_set ?_ | refine k_ret ?_ | refine k_c ?_ | refine k_call ?_ | refine k_aC ?_ | refine k_aN ?_ | refine k_2 ?_ | refine k_1 ?_ | refine k_tOf ?_ | refine k_sIf ?_ | refine k_B ?_ | refine k_tup ?_ | refine k_lst ?_ | refine k_new ?_ | refine k_addI ?_ | refine k_subI ?_ | refine k_eqI ?_ | refine k_neI ?_ | refine k_ltI ?_ | refine k_leI ?_ | refine k_gtI ?_ | refine k_geI ?_ | refine k_eqS ?_ | refine k_neS ?_ | refine k_for ?_ | refine k_forR ?_ | refine k_forG ?_ | refine k_pass ?_ | refine k_ex ?_ | refine k_retN ?_ | refine k_brk ?_ | refine k_cont ?_ | refine k_asg ?_ | refine k_setI ?_ | refine k_sl2 ?_ | refine k_slL ?_ | refine k_slH ?_ | refine k_app ?_ | refine k_ext ?_ | refine k_bk ?_ | refine k_no ?_ | refine k_tNo ?_ | refine k_tYs ?_ | refine k_if ?_ | refine k_gc ?_ | refine k_3B ?_ | refine k_lenT ?_ | refine k_lenL ?_ | refine k_lenC ?_ | refine k_tupT ?_ | refine k_tupL ?_ | refine k_lstL ?_ | refine k_lstC ?_ | refine k_lstT ?_ | refine k_ltS ?_ | refine k_m1 ?_ | refine k_m0 ?_ | refine k_cnt ?_ | refine k_min2 ?_ | refine k_eqB ?_ | refine k_neB ?_ | refine k_slT ?_ | refine k_slL' ?_ | refine k_slC ?_) | ((with_reducible apply k_v); rfl) | ((with_reducible refine k_bnd ?_ ?_); (first | omega | (simp; omega) | skip)) | ((with_reducible refine And.intro ?_ ?_); (first | rfl | exact Nat.le_of_ble_eq_true rfl | omega | (simp; done))) | ((with_reducible apply k_exe); rfl) | ((with_reducible first | apply k_condT | apply k_aug | apply k_lenO | apply k_tupO | apply k_isi | apply k_is | apply k_isn | apply k_ixT | apply k_ixL); rfl) | ((with_reducible apply k_condF); rfl) | ((with_reducible first | apply k_ixO | apply k_putI); rfl; rfl) | ((with_reducible first | apply k_lenS | apply k_mod | apply k_addS | apply k_mulI | apply k_addT | apply k_rep); (first | omega | (simp; omega) | (with_reducible assumption) | decide))))
        have := ttr_mem hz
        refine ih z (hd.2 z hz) (by omega) ?_
        exact ⟨rfl, rfl⟩
      have h1 : (" " : Str).length = 1 := rfl
      have h2 : ("(" : Str).length = 1 := rfl
      have h3 : (")" : Str).length = 1 := rfl
      refine k_joinL (strL_map ds) (by rw [h1, List.length_map]; omega) ?_
      have hj := join_tts ds
      have hjl : (Txt.join " " (ds.map fun d => (Str.mk (tt d).toArray))).length = (tts ds).length := by rw [slen, hj]
      refine k_addS (by rw [h2, hjl]; omega) ?_
      (repeat (first | (with_reducible first | refine k_seq ?_ | refine k_set ?_ | refine k_ret ?_ | refine k_c ?_ | refine k_call ?_ | refine k_aC ?_ | refine k_aN ?_ | refine k_2 ?_ | refine k_1 ?_ | refine k_tOf ?_ | refine k_sIf ?_ | refine k_B ?_ | refine k_tup ?_ | refine k_lst ?_ | refine k_new ?_ | refine k_addI ?_ | refine k_subI ?_ | refine k_eqI ?_ | refine k_neI ?_ | refine k_ltI ?_ | refine k_leI ?_ | refine k_gtI ?_ | refine k_geI ?_ | refine k_eqS ?_ | refine k_neS ?_ | refine k_for ?_ | refine k_forR ?_ | refine k_forG ?_ | refine k_pass ?_ | refine k_ex ?_ | refine k_retN ?_ | refine k_brk ?_ | refine k_cont ?_ | refine k_asg ?_ | refine k_setI ?_ | refine k_sl2 ?_ | refine k_slL ?_ | refine k_slH ?_ | refine k_app ?_ | refine k_ext ?_ | refine k_bk ?_ | refine k_no ?_ | refine k_tNo ?_ | refine k_tYs ?_ | refine k_if ?_ | refine k_gc ?_ | refine k_3B ?_ | refine k_lenT ?_ | refine k_lenL ?_ | refine k_lenC ?_ | refine k_tupT ?_ | refine k_tupL ?_ | refine k_lstL ?_ | refine k_lstC ?_ | refine k_lstT ?_ | refine k_ltS ?_ | refine k_m1 ?_ | refine k_m0 ?_ | refine k_cnt ?_ | refine k_min2 ?_ | refine k_eqB ?_ | refine k_neB ?_ | refine k_slT ?_ | refine k_slL' ?_ | refine k_slC ?_) | ((with_reducible apply k_v); rfl) | ((with_reducible refine k_bnd ?_ ?_); (first | omega | (simp; omega) | skip)) | ((with_reducible refine And.intro ?_ ?_); (first | rfl | exact Nat.le_of_ble_eq_true rfl | omega | (simp; done))) | ((with_reducible apply k_exe); rfl) | ((with_reducible first | apply k_condT | apply k_aug | apply k_lenO | apply k_tupO | apply k_isi | apply k_is | apply k_isn | apply k_ixT | apply k_ixL); rfl) | ((with_reducible apply k_condF); rfl) | ((with_reducible first | apply k_ixO | apply k_putI); rfl; rfl) | ((with_reducible first | apply k_lenS | apply k_mod | apply k_addS | apply k_mulI | apply k_addT | apply k_rep); (first | omega | (simp; omega) | (with_reducible assumption) | decide))))
      have e : "(" ++ Txt.join " " (ds.map fun d => (Str.mk (tt d).toArray)) ++ ")" = (⟨(tt (.tup ds)).toArray⟩ : Str) := by
        refine str_ext ?_
        rw [app_list, app_list, hj]
        rfl
      rw [e]
      exact h
end Law

namespace Law
open PySem PySem.Spec PyProof.Rows L2 DL
/-! ### equal trees -/
def teq (a b : D) : Bool := decide (tt a = tt b)
theorem teq_iff {n : Nat} {a b : D} (ha : tr n a) (hb : tr n b) : teq a b = true ↔ a = b := by
  unfold teq
  rw [decide_eq_true_iff]
  exact tt_eq ha hb
mutual
def pv : D → PyData
  | .str x => .str x
  | .tup ds => .tuple (pvs ds)
  | _ => .none
def pvs : List D → List PyData
  | [] => []
  | d :: ds => pv d :: pvs ds
end
theorem pd_pv : ∀ (n : Nat) (d : D), tr n d → pd d = some (pv d) := by
  intro n
  induction n with
  | zero => intro d h; cases d <;> first | exact h.elim | rfl
  | succ n ih =>
    intro d h
    cases d <;> first | exact False.elim h | rfl | skip
    rename_i ds
    have all : ∀ ds : List D, (∀ d ∈ ds, tr n d) → pds ds = some (pvs ds) := by
      intro ds
      induction ds with
      | nil => intro _; rfl
      | cons d ds ih2 => intro hd; rw [pds, ih d (hd d (by simp)), ih2 fun z hz => hd z (by simp [hz])]; rfl
    rw [pd, all ds h.2]; rfl
theorem eqv_pv : ∀ (n : Nat) (a b : D), tr n a → tr n b → (PyData.eqv (pv a) (pv b) = true ↔ a = b) := by
  intro n
  induction n with
  | zero =>
    intro a b ha hb
    cases a <;> cases b <;> first | exact ha.elim | exact hb.elim | skip
    simp [pv, PyData.eqv]
  | succ n ih =>
    intro a b ha hb
    have all : ∀ ds es : List D, (∀ d ∈ ds, tr n d) → (∀ d ∈ es, tr n d) → (PyData.eqvAll (pvs ds) (pvs es) = true ↔ ds = es) := by
      intro ds
      induction ds with
      | nil =>
        intro es _ _
        cases es <;> simp [pvs, PyData.eqvAll]
      | cons d ds ih2 =>
        intro es h1 h2
        cases es with
        | nil => simp [pvs, PyData.eqvAll]
        | cons e es =>
          rw [pvs, pvs, PyData.eqvAll, Bool.and_eq_true, ih d e (h1 d (by simp)) (h2 e (by simp)), ih2 es (fun z hz => h1 z (by simp [hz])) (fun z hz => h2 z (by simp [hz]))]
          simp
    cases a <;> cases b <;> first | exact False.elim ha | exact False.elim hb | skip
    · simp [pv, PyData.eqv]
    · simp [pv, PyData.eqv]
    · simp [pv, PyData.eqv]
    · simp [pv, PyData.eqv, all _ _ ha.2 hb.2]
theorem deq_tr {n : Nat} {a b : D} (ha : tr n a) (hb : tr n b) (hn : n ≤ 64) : deq a b = some (teq a b) := by
  have sh : ∀ d, tr n d → SeqAt.shaped (pv d) = true := fun d hd => by
    obtain ⟨p, h1, h2, h3⟩ := tr_pd hd
    rw [pd_pv n d hd] at h1
    cases h1
    unfold SeqAt.shaped
    rw [h2, decide_eq_true (by omega)]; rfl
  have e0 : deq0 a b = some (teq a b) := by
    unfold deq0
    rw [pd_pv n a ha, pd_pv n b hb]
    simp only [sh a ha, sh b hb]
    refine (if_pos ⟨trivial, trivial⟩).trans (congrArg some ?_)
    rw [Bool.eq_iff_iff, eqv_pv n a b ha hb, teq_iff ha hb]
  have h1 : ∀ (n : Nat) (d : D), tr n d → (∃ x, d = .str x) ∨ ∃ ds, d = .tup ds := fun n d hd => by
    cases n <;> cases d <;> first | exact False.elim hd | exact .inl ⟨_, rfl⟩ | exact .inr ⟨_, rfl⟩
  rcases h1 n a ha with ⟨x, rfl⟩ | ⟨ds, rfl⟩ <;> rcases h1 n b hb with ⟨y, rfl⟩ | ⟨es, rfl⟩
  · have : (deq (.str x) (.str y)).map D.bl = some (.bl (decide (x = y))) := gEq_str (S := [])
    have e2 : decide (x = y) = teq (.str x) (.str y) := by
      rw [Bool.eq_iff_iff, teq_iff ha hb]; simp
    rw [e2] at this
    cases q : deq (.str x) (.str y) with
    | none => rw [q] at this; cases this
    | some z => rw [q] at this; cases this; rfl
  · exact e0
  · exact e0
  · exact e0
theorem view_tr {n : Nat} {a : D} (ha : tr n a) (S : Sto) : view S a = a := by
  cases n <;> cases a <;> first | exact False.elim ha | rfl
theorem k_eqTr {n : Nat} {a b : D} (ha : tr n a) (hb : tr n b) (hn : n ≤ 64) {S : Sto} {Q : QE} {X : QX} (k : Q (.bl (teq a b)) S) : OkE (opt (gEq S a b) S) Q X := by
  unfold gEq
  rw [view_tr ha, view_tr hb, deq_tr ha hb hn]; exact k
theorem k_neTr {n : Nat} {a b : D} (ha : tr n a) (hb : tr n b) (hn : n ≤ 64) {S : Sto} {Q : QE} {X : QX} (k : Q (.bl (!teq a b)) S) : OkE (opt (gNe S a b) S) Q X := by
  unfold gNe
  rw [view_tr ha, view_tr hb, deq_tr ha hb hn]; exact k
/-! ### the order, told by places -/
theorem enc_at {n : Nat} : ∀ (i : Nat) (ds es : List D) (d e : D), ds.take i = es.take i → ds[i]? = some d → es[i]? = some e → tr n d → tr n e → d ≠ e → decide (encs ds < encs es) = tlt d e := by
  intro i
  induction i with
  | zero =>
    intro ds es d e _ h1 h2 hd he h
    cases ds with
    | nil => cases h1
    | cons d' ds =>
      cases es with
      | nil => cases h2
      | cons e' es =>
        cases h1; cases h2
        exact tlts_head hd he h
  | succ i ih =>
    intro ds es d e h0 h1 h2 hd he h
    cases ds with
    | nil => cases h1
    | cons d' ds =>
      cases es with
      | nil => cases h2
      | cons e' es =>
        rw [List.take_succ_cons, List.take_succ_cons, List.cons.injEq] at h0
        rw [tlts_cons h0.1]
        exact ih ds es d e h0.2 h1 h2 hd he h
theorem enc_len : ∀ (ds es : List D), ds.take (min ds.length es.length) = es.take (min ds.length es.length) → decide (encs ds < encs es) = decide (ds.length < es.length) := by
  intro ds
  induction ds with
  | nil =>
    intro es _
    cases es with
    | nil => simp [encs, List.lt_irrefl]
    | cons e es =>
      have : decide (encs [] < encs (e :: es)) = true := (Df.lt (Df.head (by decide) : Df (encs []) (encs (e :: es)) _))
      rw [this]
      simp
  | cons d ds ih =>
    intro es h
    cases es with
    | nil =>
      have : decide (encs (d :: ds) < encs []) = false := (Df.lt (Df.head (by decide) : Df (encs (d :: ds)) (encs []) _))
      rw [this]
      simp
    | cons e es =>
      rw [show min (d :: ds).length (e :: es).length = min ds.length es.length + 1 by simp only [List.length_cons]; omega, List.take_succ_cons, List.take_succ_cons, List.cons.injEq] at h
      rw [tlts_cons h.1, ih es h.2]
      simp
theorem law_ahead_s : ∀ (n : Nat) (a b : D), tr n a → tr n b → n ≤ 64 → ∀ {S : Sto} {Q : QE} {X : QX}, Q (.bl (tlt a b)) S → OkE (callS (m__law_ahead (n + 1)) [a, b] S) Q X := by
  intro n
  induction n with
  | zero =>
    intro a b ha hb hn S Q X h
    refine OkE_call0 (by simp [tr_cl ha, tr_cl hb]) ?_
    show OkE (fnD 3 (b__law_ahead (m__law_ahead 0)) [a, b] []) _ _
    refine k_fn0 ?_
    unfold b__law_ahead
    cases a <;> cases b <;> first | exact ha.elim | exact hb.elim | skip
    (repeat (first | (with_reducible first | refine k_seq ?_ | refine k_set ?_ | refine k_ret ?_ | refine k_c ?_ | refine k_call ?_ | refine k_aC ?_ | refine k_aN ?_ | refine k_2 ?_ | refine k_1 ?_ | refine k_tOf ?_ | refine k_sIf ?_ | refine k_B ?_ | refine k_tup ?_ | refine k_lst ?_ | refine k_new ?_ | refine k_addI ?_ | refine k_subI ?_ | refine k_eqI ?_ | refine k_neI ?_ | refine k_ltI ?_ | refine k_leI ?_ | refine k_gtI ?_ | refine k_geI ?_ | refine k_eqS ?_ | refine k_neS ?_ | refine k_for ?_ | refine k_forR ?_ | refine k_forG ?_ | refine k_pass ?_ | refine k_ex ?_ | refine k_retN ?_ | refine k_brk ?_ | refine k_cont ?_ | refine k_asg ?_ | refine k_setI ?_ | refine k_sl2 ?_ | refine k_slL ?_ | refine k_slH ?_ | refine k_app ?_ | refine k_ext ?_ | refine k_bk ?_ | refine k_no ?_ | refine k_tNo ?_ | refine k_tYs ?_ | refine k_if ?_ | refine k_gc ?_ | refine k_3B ?_ | refine k_lenT ?_ | refine k_lenL ?_ | refine k_lenC ?_ | refine k_tupT ?_ | refine k_tupL ?_ | refine k_lstL ?_ | refine k_lstC ?_ | refine k_lstT ?_ | refine k_ltS ?_ | refine k_m1 ?_ | refine k_m0 ?_ | refine k_cnt ?_ | refine k_min2 ?_ | refine k_eqB ?_ | refine k_neB ?_ | refine k_slT ?_ | refine k_slL' ?_ | refine k_slC ?_) | ((with_reducible apply k_v); rfl) | ((with_reducible refine k_bnd ?_ ?_); (first | omega | (simp; omega) | skip)) | ((with_reducible refine And.intro ?_ ?_); (first | rfl | exact Nat.le_of_ble_eq_true rfl | omega | (simp; done))) | ((with_reducible apply k_exe); rfl) | ((with_reducible first | apply k_condT | apply k_aug | apply k_lenO | apply k_tupO | apply k_isi | apply k_is | apply k_isn | apply k_ixT | apply k_ixL); rfl) | ((with_reducible apply k_condF); rfl) | ((with_reducible first | apply k_ixO | apply k_putI); rfl; rfl) | ((with_reducible first | apply k_lenS | apply k_mod | apply k_addS | apply k_mulI | apply k_addT | apply k_rep); (first | omega | (simp; omega) | (with_reducible assumption) | decide))))
    refine k_tOB ?_
    (repeat (first | (with_reducible first | refine k_seq ?_ | refine k_set ?_ | refine k_ret ?_ | refine k_c ?_ | refine k_call ?_ | refine k_aC ?_ | refine k_aN ?_ | refine k_2 ?_ | refine k_1 ?_ | refine k_tOf ?_ | refine k_sIf ?_ | refine k_B ?_ | refine k_tup ?_ | refine k_lst ?_ | refine k_new ?_ | refine k_addI ?_ | refine k_subI ?_ | refine k_eqI ?_ | refine k_neI ?_ | refine k_ltI ?_ | refine k_leI ?_ | refine k_gtI ?_ | refine k_geI ?_ | refine k_eqS ?_ | refine k_neS ?_ | refine k_for ?_ | refine k_forR ?_ | refine k_forG ?_ | refine k_pass ?_ | refine k_ex ?_ | refine k_retN ?_ | refine k_brk ?_ | refine k_cont ?_ | refine k_asg ?_ | refine k_setI ?_ | refine k_sl2 ?_ | refine k_slL ?_ | refine k_slH ?_ | refine k_app ?_ | refine k_ext ?_ | refine k_bk ?_ | refine k_no ?_ | refine k_tNo ?_ | refine k_tYs ?_ | refine k_if ?_ | refine k_gc ?_ | refine k_3B ?_ | refine k_lenT ?_ | refine k_lenL ?_ | refine k_lenC ?_ | refine k_tupT ?_ | refine k_tupL ?_ | refine k_lstL ?_ | refine k_lstC ?_ | refine k_lstT ?_ | refine k_ltS ?_ | refine k_m1 ?_ | refine k_m0 ?_ | refine k_cnt ?_ | refine k_min2 ?_ | refine k_eqB ?_ | refine k_neB ?_ | refine k_slT ?_ | refine k_slL' ?_ | refine k_slC ?_) | ((with_reducible apply k_v); rfl) | ((with_reducible refine k_bnd ?_ ?_); (first | omega | (simp; omega) | skip)) | ((with_reducible refine And.intro ?_ ?_); (first | rfl | exact Nat.le_of_ble_eq_true rfl | omega | (simp; done))) | ((with_reducible apply k_exe); rfl) | ((with_reducible first | apply k_condT | apply k_aug | apply k_lenO | apply k_tupO | apply k_isi | apply k_is | apply k_isn | apply k_ixT | apply k_ixL); rfl) | ((with_reducible apply k_condF); rfl) | ((with_reducible first | apply k_ixO | apply k_putI); rfl; rfl) | ((with_reducible first | apply k_lenS | apply k_mod | apply k_addS | apply k_mulI | apply k_addT | apply k_rep); (first | omega | (simp; omega) | (with_reducible assumption) | decide))))
    refine k_an ?_
    (repeat (first | (with_reducible first | refine k_seq ?_ | refine k_set ?_ | refine k_ret ?_ | refine k_c ?_ | refine k_call ?_ | refine k_aC ?_ | refine k_aN ?_ | refine k_2 ?_ | refine k_1 ?_ | refine k_tOf ?_ | refine k_sIf ?_ | refine k_B ?_ | refine k_tup ?_ | refine k_lst ?_ | refine k_new ?_ | refine k_addI ?_ | refine k_subI ?_ | refine k_eqI ?_ | refine k_neI ?_ | refine k_ltI ?_ | refine k_leI ?_ | refine k_gtI ?_ | refine k_geI ?_ | refine k_eqS ?_ | refine k_neS ?_ | refine k_for ?_ | refine k_forR ?_ | refine k_forG ?_ | refine k_pass ?_ | refine k_ex ?_ | refine k_retN ?_ | refine k_brk ?_ | refine k_cont ?_ | refine k_asg ?_ | refine k_setI ?_ | refine k_sl2 ?_ | refine k_slL ?_ | refine k_slH ?_ | refine k_app ?_ | refine k_ext ?_ | refine k_bk ?_ | refine k_no ?_ | refine k_tNo ?_ | refine k_tYs ?_ | refine k_if ?_ | refine k_gc ?_ | refine k_3B ?_ | refine k_lenT ?_ | refine k_lenL ?_ | refine k_lenC ?_ | refine k_tupT ?_ | refine k_tupL ?_ | refine k_lstL ?_ | refine k_lstC ?_ | refine k_lstT ?_ | refine k_ltS ?_ | refine k_m1 ?_ | refine k_m0 ?_ | refine k_cnt ?_ | refine k_min2 ?_ | refine k_eqB ?_ | refine k_neB ?_ | refine k_slT ?_ | refine k_slL' ?_ | refine k_slC ?_) | ((with_reducible apply k_v); rfl) | ((with_reducible refine k_bnd ?_ ?_); (first | omega | (simp; omega) | skip)) | ((with_reducible refine And.intro ?_ ?_); (first | rfl | exact Nat.le_of_ble_eq_true rfl | omega | (simp; done))) | ((with_reducible apply k_exe); rfl) | ((with_reducible first | apply k_condT | apply k_aug | apply k_lenO | apply k_tupO | apply k_isi | apply k_is | apply k_isn | apply k_ixT | apply k_ixL); rfl) | ((with_reducible apply k_condF); rfl) | ((with_reducible first | apply k_ixO | apply k_putI); rfl; rfl) | ((with_reducible first | apply k_lenS | apply k_mod | apply k_addS | apply k_mulI | apply k_addT | apply k_rep); (first | omega | (simp; omega) | (with_reducible assumption) | decide))))
    refine k_o ?_
    (repeat (first | (with_reducible first | refine k_seq ?_ | refine k_set ?_ | refine k_ret ?_ | refine k_c ?_ | refine k_call ?_ | refine k_aC ?_ | refine k_aN ?_ | refine k_2 ?_ | refine k_1 ?_ | refine k_tOf ?_ | refine k_sIf ?_ | refine k_B ?_ | refine k_tup ?_ | refine k_lst ?_ | refine k_new ?_ | refine k_addI ?_ | refine k_subI ?_ | refine k_eqI ?_ | refine k_neI ?_ | refine k_ltI ?_ | refine k_leI ?_ | refine k_gtI ?_ | refine k_geI ?_ | refine k_eqS ?_ | refine k_neS ?_ | refine k_for ?_ | refine k_forR ?_ | refine k_forG ?_ | refine k_pass ?_ | refine k_ex ?_ | refine k_retN ?_ | refine k_brk ?_ | refine k_cont ?_ | refine k_asg ?_ | refine k_setI ?_ | refine k_sl2 ?_ | refine k_slL ?_ | refine k_slH ?_ | refine k_app ?_ | refine k_ext ?_ | refine k_bk ?_ | refine k_no ?_ | refine k_tNo ?_ | refine k_tYs ?_ | refine k_if ?_ | refine k_gc ?_ | refine k_3B ?_ | refine k_lenT ?_ | refine k_lenL ?_ | refine k_lenC ?_ | refine k_tupT ?_ | refine k_tupL ?_ | refine k_lstL ?_ | refine k_lstC ?_ | refine k_lstT ?_ | refine k_ltS ?_ | refine k_m1 ?_ | refine k_m0 ?_ | refine k_cnt ?_ | refine k_min2 ?_ | refine k_eqB ?_ | refine k_neB ?_ | refine k_slT ?_ | refine k_slL' ?_ | refine k_slC ?_) | ((with_reducible apply k_v); rfl) | ((with_reducible refine k_bnd ?_ ?_); (first | omega | (simp; omega) | skip)) | ((with_reducible refine And.intro ?_ ?_); (first | rfl | exact Nat.le_of_ble_eq_true rfl | omega | (simp; done))) | ((with_reducible apply k_exe); rfl) | ((with_reducible first | apply k_condT | apply k_aug | apply k_lenO | apply k_tupO | apply k_isi | apply k_is | apply k_isn | apply k_ixT | apply k_ixL); rfl) | ((with_reducible apply k_condF); rfl) | ((with_reducible first | apply k_ixO | apply k_putI); rfl; rfl) | ((with_reducible first | apply k_lenS | apply k_mod | apply k_addS | apply k_mulI | apply k_addT | apply k_rep); (first | omega | (simp; omega) | (with_reducible assumption) | decide))))
    rw [← tlt_str]
    exact h
  | succ n ih =>
    intro a b ha hb hn S Q X h
    refine OkE_call0 (by simp [tr_cl ha, tr_cl hb]) ?_
    show OkE (fnD 3 (b__law_ahead (m__law_ahead (n + 1))) [a, b] []) _ _
    refine k_fn0 ?_
    unfold b__law_ahead
    cases a <;> cases b <;> first | exact False.elim ha | exact False.elim hb | skip
    · (repeat (first | (with_reducible first | refine k_seq ?_ | refine k_set ?_ | refine k_ret ?_ | refine k_c ?_ | refine k_call ?_ | refine k_aC ?_ | refine k_aN ?_ | refine k_2 ?_ | refine k_1 ?_ | refine k_tOf ?_ | refine k_sIf ?_ | refine k_B ?_ | refine k_tup ?_ | refine k_lst ?_ | refine k_new ?_ | refine k_addI ?_ | refine k_subI ?_ | refine k_eqI ?_ | refine k_neI ?_ | refine k_ltI ?_ | refine k_leI ?_ | refine k_gtI ?_ | refine k_geI ?_ | refine k_eqS ?_ | refine k_neS ?_ | refine k_for ?_ | refine k_forR ?_ | refine k_forG ?_ | refine k_pass ?_ | refine k_ex ?_ | refine k_retN ?_ | refine k_brk ?_ | refine k_cont ?_ | refine k_asg ?_ | refine k_setI ?_ | refine k_sl2 ?_ | refine k_slL ?_ | refine k_slH ?_ | refine k_app ?_ | refine k_ext ?_ | refine k_bk ?_ | refine k_no ?_ | refine k_tNo ?_ | refine k_tYs ?_ | refine k_if ?_ | refine k_gc ?_ | refine k_3B ?_ | refine k_lenT ?_ | refine k_lenL ?_ | refine k_lenC ?_ | refine k_tupT ?_ | refine k_tupL ?_ | refine k_lstL ?_ | refine k_lstC ?_ | refine k_lstT ?_ | refine k_ltS ?_ | refine k_m1 ?_ | refine k_m0 ?_ | refine k_cnt ?_ | refine k_min2 ?_ | refine k_eqB ?_ | refine k_neB ?_ | refine k_slT ?_ | refine k_slL' ?_ | refine k_slC ?_) | ((with_reducible apply k_v); rfl) | ((with_reducible refine k_bnd ?_ ?_); (first | omega | (simp; omega) | skip)) | ((with_reducible refine And.intro ?_ ?_); (first | rfl | exact Nat.le_of_ble_eq_true rfl | omega | (simp; done))) | ((with_reducible apply k_exe); rfl) | ((with_reducible first | apply k_condT | apply k_aug | apply k_lenO | apply k_tupO | apply k_isi | apply k_is | apply k_isn | apply k_ixT | apply k_ixL); rfl) | ((with_reducible apply k_condF); rfl) | ((with_reducible first | apply k_ixO | apply k_putI); rfl; rfl) | ((with_reducible first | apply k_lenS | apply k_mod | apply k_addS | apply k_mulI | apply k_addT | apply k_rep); (first | omega | (simp; omega) | (with_reducible assumption) | decide))))
      refine k_tOB ?_
      (repeat (first | (with_reducible first | refine k_seq ?_ | refine k_set ?_ | refine k_ret ?_ | refine k_c ?_ | refine k_call ?_ | refine k_aC ?_ | refine k_aN ?_ | refine k_2 ?_ | refine k_1 ?_ | refine k_tOf ?_ | refine k_sIf ?_ | refine k_B ?_ | refine k_tup ?_ | refine k_lst ?_ | refine k_new ?_ | refine k_addI ?_ | refine k_subI ?_ | refine k_eqI ?_ | refine k_neI ?_ | refine k_ltI ?_ | refine k_leI ?_ | refine k_gtI ?_ | refine k_geI ?_ | refine k_eqS ?_ | refine k_neS ?_ | refine k_for ?_ | refine k_forR ?_ | refine k_forG ?_ | refine k_pass ?_ | refine k_ex ?_ | refine k_retN ?_ | refine k_brk ?_ | refine k_cont ?_ | refine k_asg ?_ | refine k_setI ?_ | refine k_sl2 ?_ | refine k_slL ?_ | refine k_slH ?_ | refine k_app ?_ | refine k_ext ?_ | refine k_bk ?_ | refine k_no ?_ | refine k_tNo ?_ | refine k_tYs ?_ | refine k_if ?_ | refine k_gc ?_ | refine k_3B ?_ | refine k_lenT ?_ | refine k_lenL ?_ | refine k_lenC ?_ | refine k_tupT ?_ | refine k_tupL ?_ | refine k_lstL ?_ | refine k_lstC ?_ | refine k_lstT ?_ | refine k_ltS ?_ | refine k_m1 ?_ | refine k_m0 ?_ | refine k_cnt ?_ | refine k_min2 ?_ | refine k_eqB ?_ | refine k_neB ?_ | refine k_slT ?_ | refine k_slL' ?_ | refine k_slC ?_) | ((with_reducible apply k_v); rfl) | ((with_reducible refine k_bnd ?_ ?_); (first | omega | (simp; omega) | skip)) | ((with_reducible refine And.intro ?_ ?_); (first | rfl | exact Nat.le_of_ble_eq_true rfl | omega | (simp; done))) | ((with_reducible apply k_exe); rfl) | ((with_reducible first | apply k_condT | apply k_aug | apply k_lenO | apply k_tupO | apply k_isi | apply k_is | apply k_isn | apply k_ixT | apply k_ixL); rfl) | ((with_reducible apply k_condF); rfl) | ((with_reducible first | apply k_ixO | apply k_putI); rfl; rfl) | ((with_reducible first | apply k_lenS | apply k_mod | apply k_addS | apply k_mulI | apply k_addT | apply k_rep); (first | omega | (simp; omega) | (with_reducible assumption) | decide))))
      refine k_an ?_
      (repeat (first | (with_reducible first | refine k_seq ?_ | refine k_set ?_ | refine k_ret ?_ | refine k_c ?_ | refine k_call ?_ | refine k_aC ?_ | refine k_aN ?_ | refine k_2 ?_ | refine k_1 ?_ | refine k_tOf ?_ | refine k_sIf ?_ | refine k_B ?_ | refine k_tup ?_ | refine k_lst ?_ | refine k_new ?_ | refine k_addI ?_ | refine k_subI ?_ | refine k_eqI ?_ | refine k_neI ?_ | refine k_ltI ?_ | refine k_leI ?_ | refine k_gtI ?_ | refine k_geI ?_ | refine k_eqS ?_ | refine k_neS ?_ | refine k_for ?_ | refine k_forR ?_ | refine k_forG ?_ | refine k_pass ?_ | refine k_ex ?_ | refine k_retN ?_ | refine k_brk ?_ | refine k_cont ?_ | refine k_asg ?_ | refine k_setI ?_ | refine k_sl2 ?_ | refine k_slL ?_ | refine k_slH ?_ | refine k_app ?_ | refine k_ext ?_ | refine k_bk ?_ | refine k_no ?_ | refine k_tNo ?_ | refine k_tYs ?_ | refine k_if ?_ | refine k_gc ?_ | refine k_3B ?_ | refine k_lenT ?_ | refine k_lenL ?_ | refine k_lenC ?_ | refine k_tupT ?_ | refine k_tupL ?_ | refine k_lstL ?_ | refine k_lstC ?_ | refine k_lstT ?_ | refine k_ltS ?_ | refine k_m1 ?_ | refine k_m0 ?_ | refine k_cnt ?_ | refine k_min2 ?_ | refine k_eqB ?_ | refine k_neB ?_ | refine k_slT ?_ | refine k_slL' ?_ | refine k_slC ?_) | ((with_reducible apply k_v); rfl) | ((with_reducible refine k_bnd ?_ ?_); (first | omega | (simp; omega) | skip)) | ((with_reducible refine And.intro ?_ ?_); (first | rfl | exact Nat.le_of_ble_eq_true rfl | omega | (simp; done))) | ((with_reducible apply k_exe); rfl) | ((with_reducible first | apply k_condT | apply k_aug | apply k_lenO | apply k_tupO | apply k_isi | apply k_is | apply k_isn | apply k_ixT | apply k_ixL); rfl) | ((with_reducible apply k_condF); rfl) | ((with_reducible first | apply k_ixO | apply k_putI); rfl; rfl) | ((with_reducible first | apply k_lenS | apply k_mod | apply k_addS | apply k_mulI | apply k_addT | apply k_rep); (first | omega | (simp; omega) | (with_reducible assumption) | decide))))
      refine k_o ?_
      (repeat (first | (with_reducible first | refine k_seq ?_ | refine k_set ?_ | refine k_ret ?_ | refine k_c ?_ | refine k_call ?_ | refine k_aC ?_ | refine k_aN ?_ | refine k_2 ?_ | refine k_1 ?_ | refine k_tOf ?_ | refine k_sIf ?_ | refine k_B ?_ | refine k_tup ?_ | refine k_lst ?_ | refine k_new ?_ | refine k_addI ?_ | refine k_subI ?_ | refine k_eqI ?_ | refine k_neI ?_ | refine k_ltI ?_ | refine k_leI ?_ | refine k_gtI ?_ | refine k_geI ?_ | refine k_eqS ?_ | refine k_neS ?_ | refine k_for ?_ | refine k_forR ?_ | refine k_forG ?_ | refine k_pass ?_ | refine k_ex ?_ | refine k_retN ?_ | refine k_brk ?_ | refine k_cont ?_ | refine k_asg ?_ | refine k_setI ?_ | refine k_sl2 ?_ | refine k_slL ?_ | refine k_slH ?_ | refine k_app ?_ | refine k_ext ?_ | refine k_bk ?_ | refine k_no ?_ | refine k_tNo ?_ | refine k_tYs ?_ | refine k_if ?_ | refine k_gc ?_ | refine k_3B ?_ | refine k_lenT ?_ | refine k_lenL ?_ | refine k_lenC ?_ | refine k_tupT ?_ | refine k_tupL ?_ | refine k_lstL ?_ | refine k_lstC ?_ | refine k_lstT ?_ | refine k_ltS ?_ | refine k_m1 ?_ | refine k_m0 ?_ | refine k_cnt ?_ | refine k_min2 ?_ | refine k_eqB ?_ | refine k_neB ?_ | refine k_slT ?_ | refine k_slL' ?_ | refine k_slC ?_) | ((with_reducible apply k_v); rfl) | ((with_reducible refine k_bnd ?_ ?_); (first | omega | (simp; omega) | skip)) | ((with_reducible refine And.intro ?_ ?_); (first | rfl | exact Nat.le_of_ble_eq_true rfl | omega | (simp; done))) | ((with_reducible apply k_exe); rfl) | ((with_reducible first | apply k_condT | apply k_aug | apply k_lenO | apply k_tupO | apply k_isi | apply k_is | apply k_isn | apply k_ixT | apply k_ixL); rfl) | ((with_reducible apply k_condF); rfl) | ((with_reducible first | apply k_ixO | apply k_putI); rfl; rfl) | ((with_reducible first | apply k_lenS | apply k_mod | apply k_addS | apply k_mulI | apply k_addT | apply k_rep); (first | omega | (simp; omega) | (with_reducible assumption) | decide))))
      rw [← tlt_str]
      exact h
    · rename_i x es
      have e1 : tlt (.str x) (.tup es) = true := (Df.lt (Df.head (by decide) : Df (enc (.str x)) (enc (.tup es)) _))
      (repeat (first | (with_reducible first | refine k_seq ?_ | refine k_set ?_ | refine k_ret ?_ | refine k_c ?_ | refine k_call ?_ | refine k_aC ?_ | refine k_aN ?_ | refine k_2 ?_ | refine k_1 ?_ | refine k_tOf ?_ | refine k_sIf ?_ | refine k_B ?_ | refine k_tup ?_ | refine k_lst ?_ | refine k_new ?_ | refine k_addI ?_ | refine k_subI ?_ | refine k_eqI ?_ | refine k_neI ?_ | refine k_ltI ?_ | refine k_leI ?_ | refine k_gtI ?_ | refine k_geI ?_ | refine k_eqS ?_ | refine k_neS ?_ | refine k_for ?_ | refine k_forR ?_ | refine k_forG ?_ | refine k_pass ?_ | refine k_ex ?_ | refine k_retN ?_ | refine k_brk ?_ | refine k_cont ?_ | refine k_asg ?_ | refine k_setI ?_ | refine k_sl2 ?_ | refine k_slL ?_ | refine k_slH ?_ | refine k_app ?_ | refine k_ext ?_ | refine k_bk ?_ | refine k_no ?_ | refine k_tNo ?_ | refine k_tYs ?_ | refine k_if ?_ | refine k_gc ?_ | refine k_3B ?_ | refine k_lenT ?_ | refine k_lenL ?_ | refine k_lenC ?_ | refine k_tupT ?_ | refine k_tupL ?_ | refine k_lstL ?_ | refine k_lstC ?_ | refine k_lstT ?_ | refine k_ltS ?_ | refine k_m1 ?_ | refine k_m0 ?_ | refine k_cnt ?_ | refine k_min2 ?_ | refine k_eqB ?_ | refine k_neB ?_ | refine k_slT ?_ | refine k_slL' ?_ | refine k_slC ?_) | ((with_reducible apply k_v); rfl) | ((with_reducible refine k_bnd ?_ ?_); (first | omega | (simp; omega) | skip)) | ((with_reducible refine And.intro ?_ ?_); (first | rfl | exact Nat.le_of_ble_eq_true rfl | omega | (simp; done))) | ((with_reducible apply k_exe); rfl) | ((with_reducible first | apply k_condT | apply k_aug | apply k_lenO | apply k_tupO | apply k_isi | apply k_is | apply k_isn | apply k_ixT | apply k_ixL); rfl) | ((with_reducible apply k_condF); rfl) | ((with_reducible first | apply k_ixO | apply k_putI); rfl; rfl) | ((with_reducible first | apply k_lenS | apply k_mod | apply k_addS | apply k_mulI | apply k_addT | apply k_rep); (first | omega | (simp; omega) | (with_reducible assumption) | decide))))
      refine k_tOB ?_
      (repeat (first | (with_reducible first | refine k_seq ?_ | refine k_set ?_ | refine k_ret ?_ | refine k_c ?_ | refine k_call ?_ | refine k_aC ?_ | refine k_aN ?_ | refine k_2 ?_ | refine k_1 ?_ | refine k_tOf ?_ | refine k_sIf ?_ | refine k_B ?_ | refine k_tup ?_ | refine k_lst ?_ | refine k_new ?_ | refine k_addI ?_ | refine k_subI ?_ | refine k_eqI ?_ | refine k_neI ?_ | refine k_ltI ?_ | refine k_leI ?_ | refine k_gtI ?_ | refine k_geI ?_ | refine k_eqS ?_ | refine k_neS ?_ | refine k_for ?_ | refine k_forR ?_ | refine k_forG ?_ | refine k_pass ?_ | refine k_ex ?_ | refine k_retN ?_ | refine k_brk ?_ | refine k_cont ?_ | refine k_asg ?_ | refine k_setI ?_ | refine k_sl2 ?_ | refine k_slL ?_ | refine k_slH ?_ | refine k_app ?_ | refine k_ext ?_ | refine k_bk ?_ | refine k_no ?_ | refine k_tNo ?_ | refine k_tYs ?_ | refine k_if ?_ | refine k_gc ?_ | refine k_3B ?_ | refine k_lenT ?_ | refine k_lenL ?_ | refine k_lenC ?_ | refine k_tupT ?_ | refine k_tupL ?_ | refine k_lstL ?_ | refine k_lstC ?_ | refine k_lstT ?_ | refine k_ltS ?_ | refine k_m1 ?_ | refine k_m0 ?_ | refine k_cnt ?_ | refine k_min2 ?_ | refine k_eqB ?_ | refine k_neB ?_ | refine k_slT ?_ | refine k_slL' ?_ | refine k_slC ?_) | ((with_reducible apply k_v); rfl) | ((with_reducible refine k_bnd ?_ ?_); (first | omega | (simp; omega) | skip)) | ((with_reducible refine And.intro ?_ ?_); (first | rfl | exact Nat.le_of_ble_eq_true rfl | omega | (simp; done))) | ((with_reducible apply k_exe); rfl) | ((with_reducible first | apply k_condT | apply k_aug | apply k_lenO | apply k_tupO | apply k_isi | apply k_is | apply k_isn | apply k_ixT | apply k_ixL); rfl) | ((with_reducible apply k_condF); rfl) | ((with_reducible first | apply k_ixO | apply k_putI); rfl; rfl) | ((with_reducible first | apply k_lenS | apply k_mod | apply k_addS | apply k_mulI | apply k_addT | apply k_rep); (first | omega | (simp; omega) | (with_reducible assumption) | decide))))
      refine k_an ?_
      (repeat (first | (with_reducible first | refine k_seq ?_ | refine k_set ?_ | refine k_ret ?_ | refine k_c ?_ | refine k_call ?_ | refine k_aC ?_ | refine k_aN ?_ | refine k_2 ?_ | refine k_1 ?_ | refine k_tOf ?_ | refine k_sIf ?_ | refine k_B ?_ | refine k_tup ?_ | refine k_lst ?_ | refine k_new ?_ | refine k_addI ?_ | refine k_subI ?_ | refine k_eqI ?_ | refine k_neI ?_ | refine k_ltI ?_ | refine k_leI ?_ | refine k_gtI ?_ | refine k_geI ?_ | refine k_eqS ?_ | refine k_neS ?_ | refine k_for ?_ | refine k_forR ?_ | refine k_forG ?_ | refine k_pass ?_ | refine k_ex ?_ | refine k_retN ?_ | refine k_brk ?_ | refine k_cont ?_ | refine k_asg ?_ | refine k_setI ?_ | refine k_sl2 ?_ | refine k_slL ?_ | refine k_slH ?_ | refine k_app ?_ | refine k_ext ?_ | refine k_bk ?_ | refine k_no ?_ | refine k_tNo ?_ | refine k_tYs ?_ | refine k_if ?_ | refine k_gc ?_ | refine k_3B ?_ | refine k_lenT ?_ | refine k_lenL ?_ | refine k_lenC ?_ | refine k_tupT ?_ | refine k_tupL ?_ | refine k_lstL ?_ | refine k_lstC ?_ | refine k_lstT ?_ | refine k_ltS ?_ | refine k_m1 ?_ | refine k_m0 ?_ | refine k_cnt ?_ | refine k_min2 ?_ | refine k_eqB ?_ | refine k_neB ?_ | refine k_slT ?_ | refine k_slL' ?_ | refine k_slC ?_) | ((with_reducible apply k_v); rfl) | ((with_reducible refine k_bnd ?_ ?_); (first | omega | (simp; omega) | skip)) | ((with_reducible refine And.intro ?_ ?_); (first | rfl | exact Nat.le_of_ble_eq_true rfl | omega | (simp; done))) | ((with_reducible apply k_exe); rfl) | ((with_reducible first | apply k_condT | apply k_aug | apply k_lenO | apply k_tupO | apply k_isi | apply k_is | apply k_isn | apply k_ixT | apply k_ixL); rfl) | ((with_reducible apply k_condF); rfl) | ((with_reducible first | apply k_ixO | apply k_putI); rfl; rfl) | ((with_reducible first | apply k_lenS | apply k_mod | apply k_addS | apply k_mulI | apply k_addT | apply k_rep); (first | omega | (simp; omega) | (with_reducible assumption) | decide))))
      refine k_o ?_
      (repeat (first | (with_reducible first | refine k_seq ?_ | refine k_set ?_ | refine k_ret ?_ | refine k_c ?_ | refine k_call ?_ | refine k_aC ?_ | refine k_aN ?_ | refine k_2 ?_ | refine k_1 ?_ | refine k_tOf ?_ | refine k_sIf ?_ | refine k_B ?_ | refine k_tup ?_ | refine k_lst ?_ | refine k_new ?_ | refine k_addI ?_ | refine k_subI ?_ | refine k_eqI ?_ | refine k_neI ?_ | refine k_ltI ?_ | refine k_leI ?_ | refine k_gtI ?_ | refine k_geI ?_ | refine k_eqS ?_ | refine k_neS ?_ | refine k_for ?_ | refine k_forR ?_ | refine k_forG ?_ | refine k_pass ?_ | refine k_ex ?_ | refine k_retN ?_ | refine k_brk ?_ | refine k_cont ?_ | refine k_asg ?_ | refine k_setI ?_ | refine k_sl2 ?_ | refine k_slL ?_ | refine k_slH ?_ | refine k_app ?_ | refine k_ext ?_ | refine k_bk ?_ | refine k_no ?_ | refine k_tNo ?_ | refine k_tYs ?_ | refine k_if ?_ | refine k_gc ?_ | refine k_3B ?_ | refine k_lenT ?_ | refine k_lenL ?_ | refine k_lenC ?_ | refine k_tupT ?_ | refine k_tupL ?_ | refine k_lstL ?_ | refine k_lstC ?_ | refine k_lstT ?_ | refine k_ltS ?_ | refine k_m1 ?_ | refine k_m0 ?_ | refine k_cnt ?_ | refine k_min2 ?_ | refine k_eqB ?_ | refine k_neB ?_ | refine k_slT ?_ | refine k_slL' ?_ | refine k_slC ?_) | ((with_reducible apply k_v); rfl) | ((with_reducible refine k_bnd ?_ ?_); (first | omega | (simp; omega) | skip)) | ((with_reducible refine And.intro ?_ ?_); (first | rfl | exact Nat.le_of_ble_eq_true rfl | omega | (simp; done))) | ((with_reducible apply k_exe); rfl) | ((with_reducible first | apply k_condT | apply k_aug | apply k_lenO | apply k_tupO | apply k_isi | apply k_is | apply k_isn | apply k_ixT | apply k_ixL); rfl) | ((with_reducible apply k_condF); rfl) | ((with_reducible first | apply k_ixO | apply k_putI); rfl; rfl) | ((with_reducible first | apply k_lenS | apply k_mod | apply k_addS | apply k_mulI | apply k_addT | apply k_rep); (first | omega | (simp; omega) | (with_reducible assumption) | decide))))
      rw [← e1]
      exact h
    · rename_i ds x
      have e1 : tlt (.tup ds) (.str x) = false := (Df.lt (Df.head (by decide) : Df (enc (.tup ds)) (enc (.str x)) _))
      (repeat (first | (with_reducible first | refine k_seq ?_ | refine k_set ?_ | refine k_ret ?_ | refine k_c ?_ | refine k_call ?_ | refine k_aC ?_ | refine k_aN ?_ | refine k_2 ?_ | refine k_1 ?_ | refine k_tOf ?_ | refine k_sIf ?_ | refine k_B ?_ | refine k_tup ?_ | refine k_lst ?_ | refine k_new ?_ | refine k_addI ?_ | refine k_subI ?_ | refine k_eqI ?_ | refine k_neI ?_ | refine k_ltI ?_ | refine k_leI ?_ | refine k_gtI ?_ | refine k_geI ?_ | refine k_eqS ?_ | refine k_neS ?_ | refine k_for ?_ | refine k_forR ?_ | refine k_forG ?_ | refine k_pass ?_ | refine k_ex ?_ | refine k_retN ?_ | refine k_brk ?_ | refine k_cont ?_ | refine k_asg ?_ | refine k_setI ?_ | refine k_sl2 ?_ | refine k_slL ?_ | refine k_slH ?_ | refine k_app ?_ | refine k_ext ?_ | refine k_bk ?_ | refine k_no ?_ | refine k_tNo ?_ | refine k_tYs ?_ | refine k_if ?_ | refine k_gc ?_ | refine k_3B ?_ | refine k_lenT ?_ | refine k_lenL ?_ | refine k_lenC ?_ | refine k_tupT ?_ | refine k_tupL ?_ | refine k_lstL ?_ | refine k_lstC ?_ | refine k_lstT ?_ | refine k_ltS ?_ | refine k_m1 ?_ | refine k_m0 ?_ | refine k_cnt ?_ | refine k_min2 ?_ | refine k_eqB ?_ | refine k_neB ?_ | refine k_slT ?_ | refine k_slL' ?_ | refine k_slC ?_) | ((with_reducible apply k_v); rfl) | ((with_reducible refine k_bnd ?_ ?_); (first | omega | (simp; omega) | skip)) | ((with_reducible refine And.intro ?_ ?_); (first | rfl | exact Nat.le_of_ble_eq_true rfl | omega | (simp; done))) | ((with_reducible apply k_exe); rfl) | ((with_reducible first | apply k_condT | apply k_aug | apply k_lenO | apply k_tupO | apply k_isi | apply k_is | apply k_isn | apply k_ixT | apply k_ixL); rfl) | ((with_reducible apply k_condF); rfl) | ((with_reducible first | apply k_ixO | apply k_putI); rfl; rfl) | ((with_reducible first | apply k_lenS | apply k_mod | apply k_addS | apply k_mulI | apply k_addT | apply k_rep); (first | omega | (simp; omega) | (with_reducible assumption) | decide))))
      refine k_tOB ?_
      (repeat (first | (with_reducible first | refine k_seq ?_ | refine k_set ?_ | refine k_ret ?_ | refine k_c ?_ | refine k_call ?_ | refine k_aC ?_ | refine k_aN ?_ | refine k_2 ?_ | refine k_1 ?_ | refine k_tOf ?_ | refine k_sIf ?_ | refine k_B ?_ | refine k_tup ?_ | refine k_lst ?_ | refine k_new ?_ | refine k_addI ?_ | refine k_subI ?_ | refine k_eqI ?_ | refine k_neI ?_ | refine k_ltI ?_ | refine k_leI ?_ | refine k_gtI ?_ | refine k_geI ?_ | refine k_eqS ?_ | refine k_neS ?_ | refine k_for ?_ | refine k_forR ?_ | refine k_forG ?_ | refine k_pass ?_ | refine k_ex ?_ | refine k_retN ?_ | refine k_brk ?_ | refine k_cont ?_ | refine k_asg ?_ | refine k_setI ?_ | refine k_sl2 ?_ | refine k_slL ?_ | refine k_slH ?_ | refine k_app ?_ | refine k_ext ?_ | refine k_bk ?_ | refine k_no ?_ | refine k_tNo ?_ | refine k_tYs ?_ | refine k_if ?_ | refine k_gc ?_ | refine k_3B ?_ | refine k_lenT ?_ | refine k_lenL ?_ | refine k_lenC ?_ | refine k_tupT ?_ | refine k_tupL ?_ | refine k_lstL ?_ | refine k_lstC ?_ | refine k_lstT ?_ | refine k_ltS ?_ | refine k_m1 ?_ | refine k_m0 ?_ | refine k_cnt ?_ | refine k_min2 ?_ | refine k_eqB ?_ | refine k_neB ?_ | refine k_slT ?_ | refine k_slL' ?_ | refine k_slC ?_) | ((with_reducible apply k_v); rfl) | ((with_reducible refine k_bnd ?_ ?_); (first | omega | (simp; omega) | skip)) | ((with_reducible refine And.intro ?_ ?_); (first | rfl | exact Nat.le_of_ble_eq_true rfl | omega | (simp; done))) | ((with_reducible apply k_exe); rfl) | ((with_reducible first | apply k_condT | apply k_aug | apply k_lenO | apply k_tupO | apply k_isi | apply k_is | apply k_isn | apply k_ixT | apply k_ixL); rfl) | ((with_reducible apply k_condF); rfl) | ((with_reducible first | apply k_ixO | apply k_putI); rfl; rfl) | ((with_reducible first | apply k_lenS | apply k_mod | apply k_addS | apply k_mulI | apply k_addT | apply k_rep); (first | omega | (simp; omega) | (with_reducible assumption) | decide))))
      refine k_an ?_
      (repeat (first | (with_reducible first | refine k_seq ?_ | refine k_set ?_ | refine k_ret ?_ | refine k_c ?_ | refine k_call ?_ | refine k_aC ?_ | refine k_aN ?_ | refine k_2 ?_ | refine k_1 ?_ | refine k_tOf ?_ | refine k_sIf ?_ | refine k_B ?_ | refine k_tup ?_ | refine k_lst ?_ | refine k_new ?_ | refine k_addI ?_ | refine k_subI ?_ | refine k_eqI ?_ | refine k_neI ?_ | refine k_ltI ?_ | refine k_leI ?_ | refine k_gtI ?_ | refine k_geI ?_ | refine k_eqS ?_ | refine k_neS ?_ | refine k_for ?_ | refine k_forR ?_ | refine k_forG ?_ | refine k_pass ?_ | refine k_ex ?_ | refine k_retN ?_ | refine k_brk ?_ | refine k_cont ?_ | refine k_asg ?_ | refine k_setI ?_ | refine k_sl2 ?_ | refine k_slL ?_ | refine k_slH ?_ | refine k_app ?_ | refine k_ext ?_ | refine k_bk ?_ | refine k_no ?_ | refine k_tNo ?_ | refine k_tYs ?_ | refine k_if ?_ | refine k_gc ?_ | refine k_3B ?_ | refine k_lenT ?_ | refine k_lenL ?_ | refine k_lenC ?_ | refine k_tupT ?_ | refine k_tupL ?_ | refine k_lstL ?_ | refine k_lstC ?_ | refine k_lstT ?_ | refine k_ltS ?_ | refine k_m1 ?_ | refine k_m0 ?_ | refine k_cnt ?_ | refine k_min2 ?_ | refine k_eqB ?_ | refine k_neB ?_ | refine k_slT ?_ | refine k_slL' ?_ | refine k_slC ?_) | ((with_reducible apply k_v); rfl) | ((with_reducible refine k_bnd ?_ ?_); (first | omega | (simp; omega) | skip)) | ((with_reducible refine And.intro ?_ ?_); (first | rfl | exact Nat.le_of_ble_eq_true rfl | omega | (simp; done))) | ((with_reducible apply k_exe); rfl) | ((with_reducible first | apply k_condT | apply k_aug | apply k_lenO | apply k_tupO | apply k_isi | apply k_is | apply k_isn | apply k_ixT | apply k_ixL); rfl) | ((with_reducible apply k_condF); rfl) | ((with_reducible first | apply k_ixO | apply k_putI); rfl; rfl) | ((with_reducible first | apply k_lenS | apply k_mod | apply k_addS | apply k_mulI | apply k_addT | apply k_rep); (first | omega | (simp; omega) | (with_reducible assumption) | decide))))
      rw [← e1]
      exact h
    · rename_i ds es
      have hl1 := ha.1
      have hl2 := hb.1
      (repeat (first | (with_reducible first | refine k_seq ?_ | refine k_set ?_ | refine k_ret ?_ | refine k_c ?_ | refine k_call ?_ | refine k_aC ?_ | refine k_aN ?_ | refine k_2 ?_ | refine k_1 ?_ | refine k_tOf ?_ | refine k_sIf ?_ | refine k_B ?_ | refine k_tup ?_ | refine k_lst ?_ | refine k_new ?_ | refine k_addI ?_ | refine k_subI ?_ | refine k_eqI ?_ | refine k_neI ?_ | refine k_ltI ?_ | refine k_leI ?_ | refine k_gtI ?_ | refine k_geI ?_ | refine k_eqS ?_ | refine k_neS ?_ | refine k_for ?_ | refine k_forR ?_ | refine k_forG ?_ | refine k_pass ?_ | refine k_ex ?_ | refine k_retN ?_ | refine k_brk ?_ | refine k_cont ?_ | refine k_asg ?_ | refine k_setI ?_ | refine k_sl2 ?_ | refine k_slL ?_ | refine k_slH ?_ | refine k_app ?_ | refine k_ext ?_ | refine k_bk ?_ | refine k_no ?_ | refine k_tNo ?_ | refine k_tYs ?_ | refine k_if ?_ | refine k_gc ?_ | refine k_3B ?_ | refine k_lenT ?_ | refine k_lenL ?_ | refine k_lenC ?_ | refine k_tupT ?_ | refine k_tupL ?_ | refine k_lstL ?_ | refine k_lstC ?_ | refine k_lstT ?_ | refine k_ltS ?_ | refine k_m1 ?_ | refine k_m0 ?_ | refine k_cnt ?_ | refine k_min2 ?_ | refine k_eqB ?_ | refine k_neB ?_ | refine k_slT ?_ | refine k_slL' ?_ | refine k_slC ?_) | ((with_reducible apply k_v); rfl) | ((with_reducible refine k_bnd ?_ ?_); (first | omega | (simp; omega) | skip)) | ((with_reducible refine And.intro ?_ ?_); (first | rfl | exact Nat.le_of_ble_eq_true rfl | omega | (simp; done))) | ((with_reducible apply k_exe); rfl) | ((with_reducible first | apply k_condT | apply k_aug | apply k_lenO | apply k_tupO | apply k_isi | apply k_is | apply k_isn | apply k_ixT | apply k_ixL); rfl) | ((with_reducible apply k_condF); rfl) | ((with_reducible first | apply k_ixO | apply k_putI); rfl; rfl) | ((with_reducible first | apply k_lenS | apply k_mod | apply k_addS | apply k_mulI | apply k_addT | apply k_rep); (first | omega | (simp; omega) | (with_reducible assumption) | decide))))
      refine k_tOB ?_
      (repeat (first | (with_reducible first | refine k_seq ?_ | refine k_set ?_ | refine k_ret ?_ | refine k_c ?_ | refine k_call ?_ | refine k_aC ?_ | refine k_aN ?_ | refine k_2 ?_ | refine k_1 ?_ | refine k_tOf ?_ | refine k_sIf ?_ | refine k_B ?_ | refine k_tup ?_ | refine k_lst ?_ | refine k_new ?_ | refine k_addI ?_ | refine k_subI ?_ | refine k_eqI ?_ | refine k_neI ?_ | refine k_ltI ?_ | refine k_leI ?_ | refine k_gtI ?_ | refine k_geI ?_ | refine k_eqS ?_ | refine k_neS ?_ | refine k_for ?_ | refine k_forR ?_ | refine k_forG ?_ | refine k_pass ?_ | refine k_ex ?_ | refine k_retN ?_ | refine k_brk ?_ | refine k_cont ?_ | refine k_asg ?_ | refine k_setI ?_ | refine k_sl2 ?_ | refine k_slL ?_ | refine k_slH ?_ | refine k_app ?_ | refine k_ext ?_ | refine k_bk ?_ | refine k_no ?_ | refine k_tNo ?_ | refine k_tYs ?_ | refine k_if ?_ | refine k_gc ?_ | refine k_3B ?_ | refine k_lenT ?_ | refine k_lenL ?_ | refine k_lenC ?_ | refine k_tupT ?_ | refine k_tupL ?_ | refine k_lstL ?_ | refine k_lstC ?_ | refine k_lstT ?_ | refine k_ltS ?_ | refine k_m1 ?_ | refine k_m0 ?_ | refine k_cnt ?_ | refine k_min2 ?_ | refine k_eqB ?_ | refine k_neB ?_ | refine k_slT ?_ | refine k_slL' ?_ | refine k_slC ?_) | ((with_reducible apply k_v); rfl) | ((with_reducible refine k_bnd ?_ ?_); (first | omega | (simp; omega) | skip)) | ((with_reducible refine And.intro ?_ ?_); (first | rfl | exact Nat.le_of_ble_eq_true rfl | omega | (simp; done))) | ((with_reducible apply k_exe); rfl) | ((with_reducible first | apply k_condT | apply k_aug | apply k_lenO | apply k_tupO | apply k_isi | apply k_is | apply k_isn | apply k_ixT | apply k_ixL); rfl) | ((with_reducible apply k_condF); rfl) | ((with_reducible first | apply k_ixO | apply k_putI); rfl; rfl) | ((with_reducible first | apply k_lenS | apply k_mod | apply k_addS | apply k_mulI | apply k_addT | apply k_rep); (first | omega | (simp; omega) | (with_reducible assumption) | decide))))
      have em : (if (es.length : Int) < ds.length then (es.length : Int) else ds.length).toNat = min ds.length es.length := by split <;> omega
      rw [em]
      refine OkS_for (fun i e S => ∃ x, e = [some (.tup ds), some (.tup es), x] ∧ S = [] ∧ ds.take i = es.take i) (k := 0) ⟨none, rfl, rfl, rfl⟩ ?_ ?_
      · rintro i d _ _ hd ⟨x, rfl, rfl, hp⟩
        obtain ⟨hi, rfl⟩ := rng_at hd
        rw [Int.zero_add]
        rw [Nat.zero_add] at hp
        have i1 : i < ds.length := by omega
        have i2 : i < es.length := by omega
        have t1 := ha.2 ds[i] (List.getElem_mem i1)
        have t2 := hb.2 es[i] (List.getElem_mem i2)
        have g1 : ds[i]? = some ds[i] := List.getElem?_eq_getElem i1
        have g2 : es[i]? = some es[i] := List.getElem?_eq_getElem i2
        have a1 : atI ds (i : Int) = some ds[i] := atI_nat g1
        have a2 : atI es (i : Int) = some es[i] := atI_nat g2
        refine ⟨True.intro, _, rfl, ?_⟩
        (repeat (first | (with_reducible first | refine k_seq ?_ | refine k_set ?_ | refine k_ret ?_ | refine k_c ?_ | refine k_call ?_ | refine k_aC ?_ | refine k_aN ?_ | refine k_2 ?_ | refine k_1 ?_ | refine k_tOf ?_ | refine k_sIf ?_ | refine k_B ?_ | refine k_tup ?_ | refine k_lst ?_ | refine k_new ?_ | refine k_addI ?_ | refine k_subI ?_ | refine k_eqI ?_ | refine k_neI ?_ | refine k_ltI ?_ | refine k_leI ?_ | refine k_gtI ?_ | refine k_geI ?_ | refine k_eqS ?_ | refine k_neS ?_ | refine k_for ?_ | refine k_forR ?_ | refine k_forG ?_ | refine k_pass ?_ | refine k_ex ?_ | refine k_retN ?_ | refine k_brk ?_ | refine k_cont ?_ | refine k_asg ?_ | refine k_setI ?_ | refine k_sl2 ?_ | refine k_slL ?_ | refine k_slH ?_ | refine k_app ?_ | refine k_ext ?_ | refine k_bk ?_ | refine k_no ?_ | refine k_tNo ?_ | refine k_tYs ?_ | refine k_if ?_ | refine k_gc ?_ | refine k_3B ?_ | refine k_lenT ?_ | refine k_lenL ?_ | refine k_lenC ?_ | refine k_tupT ?_ | refine k_tupL ?_ | refine k_lstL ?_ | refine k_lstC ?_ | refine k_lstT ?_ | refine k_ltS ?_ | refine k_m1 ?_ | refine k_m0 ?_ | refine k_cnt ?_ | refine k_min2 ?_ | refine k_eqB ?_ | refine k_neB ?_ | refine k_slT ?_ | refine k_slL' ?_ | refine k_slC ?_) | ((with_reducible apply k_v); rfl) | ((with_reducible refine k_bnd ?_ ?_); (first | omega | (simp; omega) | skip)) | ((with_reducible refine And.intro ?_ ?_); (first | rfl | exact Nat.le_of_ble_eq_true rfl | omega | (simp; done))) | ((with_reducible apply k_exe); rfl) | ((with_reducible first | apply k_condT | apply k_aug | apply k_lenO | apply k_tupO | apply k_isi | apply k_is | apply k_isn | apply k_ixT | apply k_ixL); rfl) | ((with_reducible apply k_condF); rfl) | ((with_reducible first | apply k_ixO | apply k_putI); rfl; rfl) | ((with_reducible first | apply k_lenS | apply k_mod | apply k_addS | apply k_mulI | apply k_addT | apply k_rep); (first | omega | (simp; omega) | (with_reducible assumption) | decide))))
        refine k_ixT a1 ?_
        (repeat (first | (with_reducible first | refine k_seq ?_ | refine k_set ?_ | refine k_ret ?_ | refine k_c ?_ | refine k_call ?_ | refine k_aC ?_ | refine k_aN ?_ | refine k_2 ?_ | refine k_1 ?_ | refine k_tOf ?_ | refine k_sIf ?_ | refine k_B ?_ | refine k_tup ?_ | refine k_lst ?_ | refine k_new ?_ | refine k_addI ?_ | refine k_subI ?_ | refine k_eqI ?_ | refine k_neI ?_ | refine k_ltI ?_ | refine k_leI ?_ | refine k_gtI ?_ | refine k_geI ?_ | refine k_eqS ?_ | refine k_neS ?_ | refine k_for ?_ | refine k_forR ?_ | refine k_forG ?_ | refine k_pass ?_ | refine k_ex ?_ | refine k_retN ?_ | refine k_brk ?_ | refine k_cont ?_ | refine k_asg ?_ | refine k_setI ?_ | refine k_sl2 ?_ | refine k_slL ?_ | refine k_slH ?_ | refine k_app ?_ | refine k_ext ?_ | refine k_bk ?_ | refine k_no ?_ | refine k_tNo ?_ | refine k_tYs ?_ | refine k_if ?_ | refine k_gc ?_ | refine k_3B ?_ | refine k_lenT ?_ | refine k_lenL ?_ | refine k_lenC ?_ | refine k_tupT ?_ | refine k_tupL ?_ | refine k_lstL ?_ | refine k_lstC ?_ | refine k_lstT ?_ | refine k_ltS ?_ | refine k_m1 ?_ | refine k_m0 ?_ | refine k_cnt ?_ | refine k_min2 ?_ | refine k_eqB ?_ | refine k_neB ?_ | refine k_slT ?_ | refine k_slL' ?_ | refine k_slC ?_) | ((with_reducible apply k_v); rfl) | ((with_reducible refine k_bnd ?_ ?_); (first | omega | (simp; omega) | skip)) | ((with_reducible refine And.intro ?_ ?_); (first | rfl | exact Nat.le_of_ble_eq_true rfl | omega | (simp; done))) | ((with_reducible apply k_exe); rfl) | ((with_reducible first | apply k_condT | apply k_aug | apply k_lenO | apply k_tupO | apply k_isi | apply k_is | apply k_isn | apply k_ixT | apply k_ixL); rfl) | ((with_reducible apply k_condF); rfl) | ((with_reducible first | apply k_ixO | apply k_putI); rfl; rfl) | ((with_reducible first | apply k_lenS | apply k_mod | apply k_addS | apply k_mulI | apply k_addT | apply k_rep); (first | omega | (simp; omega) | (with_reducible assumption) | decide))))
        refine k_ixT a2 ?_
        refine k_neTr t1 t2 (by omega) ?_
        (repeat (first | (with_reducible first | refine k_seq ?_ | refine k_set ?_ | refine k_ret ?_ | refine k_c ?_ | refine k_call ?_ | refine k_aC ?_ | refine k_aN ?_ | refine k_2 ?_ | refine k_1 ?_ | refine k_tOf ?_ | refine k_sIf ?_ | refine k_B ?_ | refine k_tup ?_ | refine k_lst ?_ | refine k_new ?_ | refine k_addI ?_ | refine k_subI ?_ | refine k_eqI ?_ | refine k_neI ?_ | refine k_ltI ?_ | refine k_leI ?_ | refine k_gtI ?_ | refine k_geI ?_ | refine k_eqS ?_ | refine k_neS ?_ | refine k_for ?_ | refine k_forR ?_ | refine k_forG ?_ | refine k_pass ?_ | refine k_ex ?_ | refine k_retN ?_ | refine k_brk ?_ | refine k_cont ?_ | refine k_asg ?_ | refine k_setI ?_ | refine k_sl2 ?_ | refine k_slL ?_ | refine k_slH ?_ | refine k_app ?_ | refine k_ext ?_ | refine k_bk ?_ | refine k_no ?_ | refine k_tNo ?_ | refine k_tYs ?_ | refine k_if ?_ | refine k_gc ?_ | refine k_3B ?_ | refine k_lenT ?_ | refine k_lenL ?_ | refine k_lenC ?_ | refine k_tupT ?_ | refine k_tupL ?_ | refine k_lstL ?_ | refine k_lstC ?_ | refine k_lstT ?_ | refine k_ltS ?_ | refine k_m1 ?_ | refine k_m0 ?_ | refine k_cnt ?_ | refine k_min2 ?_ | refine k_eqB ?_ | refine k_neB ?_ | refine k_slT ?_ | refine k_slL' ?_ | refine k_slC ?_) | ((with_reducible apply k_v); rfl) | ((with_reducible refine k_bnd ?_ ?_); (first | omega | (simp; omega) | skip)) | ((with_reducible refine And.intro ?_ ?_); (first | rfl | exact Nat.le_of_ble_eq_true rfl | omega | (simp; done))) | ((with_reducible apply k_exe); rfl) | ((with_reducible first | apply k_condT | apply k_aug | apply k_lenO | apply k_tupO | apply k_isi | apply k_is | apply k_isn | apply k_ixT | apply k_ixL); rfl) | ((with_reducible apply k_condF); rfl) | ((with_reducible first | apply k_ixO | apply k_putI); rfl; rfl) | ((with_reducible first | apply k_lenS | apply k_mod | apply k_addS | apply k_mulI | apply k_addT | apply k_rep); (first | omega | (simp; omega) | (with_reducible assumption) | decide))))
        refine ⟨fun hne => ?_, fun he => ?_⟩
        · (repeat (first | (with_reducible first | refine k_seq ?_ | refine k_set ?_ | refine k_ret ?_ | refine k_c ?_ | refine k_call ?_ | refine k_aC ?_ | refine k_aN ?_ | refine k_2 ?_ | refine k_1 ?_ | refine k_tOf ?_ | refine k_sIf ?_ | refine k_B ?_ | refine k_tup ?_ | refine k_lst ?_ | refine k_new ?_ | refine k_addI ?_ | refine k_subI ?_ | refine k_eqI ?_ | refine k_neI ?_ | refine k_ltI ?_ | refine k_leI ?_ | refine k_gtI ?_ | refine k_geI ?_ | refine k_eqS ?_ | refine k_neS ?_ | refine k_for ?_ | refine k_forR ?_ | refine k_forG ?_ | refine k_pass ?_ | refine k_ex ?_ | refine k_retN ?_ | refine k_brk ?_ | refine k_cont ?_ | refine k_asg ?_ | refine k_setI ?_ | refine k_sl2 ?_ | refine k_slL ?_ | refine k_slH ?_ | refine k_app ?_ | refine k_ext ?_ | refine k_bk ?_ | refine k_no ?_ | refine k_tNo ?_ | refine k_tYs ?_ | refine k_if ?_ | refine k_gc ?_ | refine k_3B ?_ | refine k_lenT ?_ | refine k_lenL ?_ | refine k_lenC ?_ | refine k_tupT ?_ | refine k_tupL ?_ | refine k_lstL ?_ | refine k_lstC ?_ | refine k_lstT ?_ | refine k_ltS ?_ | refine k_m1 ?_ | refine k_m0 ?_ | refine k_cnt ?_ | refine k_min2 ?_ | refine k_eqB ?_ | refine k_neB ?_ | refine k_slT ?_ | refine k_slL' ?_ | refine k_slC ?_) | ((with_reducible apply k_v); rfl) | ((with_reducible refine k_bnd ?_ ?_); (first | omega | (simp; omega) | skip)) | ((with_reducible refine And.intro ?_ ?_); (first | rfl | exact Nat.le_of_ble_eq_true rfl | omega | (simp; done))) | ((with_reducible apply k_exe); rfl) | ((with_reducible first | apply k_condT | apply k_aug | apply k_lenO | apply k_tupO | apply k_isi | apply k_is | apply k_isn | apply k_ixT | apply k_ixL); rfl) | ((with_reducible apply k_condF); rfl) | ((with_reducible first | apply k_ixO | apply k_putI); rfl; rfl) | ((with_reducible first | apply k_lenS | apply k_mod | apply k_addS | apply k_mulI | apply k_addT | apply k_rep); (first | omega | (simp; omega) | (with_reducible assumption) | decide))))
          refine k_ixT a1 ?_
          (repeat (first | (with_reducible first | refine k_seq ?_ | refine k_set ?_ | refine k_ret ?_ | refine k_c ?_ | refine k_call ?_ | refine k_aC ?_ | refine k_aN ?_ | refine k_2 ?_ | refine k_1 ?_ | refine k_tOf ?_ | refine k_sIf ?_ | refine k_B ?_ | refine k_tup ?_ | refine k_lst ?_ | refine k_new ?_ | refine k_addI ?_ | refine k_subI ?_ | refine k_eqI ?_ | refine k_neI ?_ | refine k_ltI ?_ | refine k_leI ?_ | refine k_gtI ?_ | refine k_geI ?_ | refine k_eqS ?_ | refine k_neS ?_ | refine k_for ?_ | refine k_forR ?_ | refine k_forG ?_ | refine k_pass ?_ | refine k_ex ?_ | refine k_retN ?_ | refine k_brk ?_ | refine k_cont ?_ | refine k_asg ?_ | refine k_setI ?_ | refine k_sl2 ?_ | refine k_slL ?_ | refine k_slH ?_ | refine k_app ?_ | refine k_ext ?_ | refine k_bk ?_ | refine k_no ?_ | refine k_tNo ?_ | refine k_tYs ?_ | refine k_if ?_ | refine k_gc ?_ | refine k_3B ?_ | refine k_lenT ?_ | refine k_lenL ?_ | refine k_lenC ?_ | refine k_tupT ?_ | refine k_tupL ?_ | refine k_lstL ?_ | refine k_lstC ?_ | refine k_lstT ?_ | refine k_ltS ?_ | refine k_m1 ?_ | refine k_m0 ?_ | refine k_cnt ?_ | refine k_min2 ?_ | refine k_eqB ?_ | refine k_neB ?_ | refine k_slT ?_ | refine k_slL' ?_ | refine k_slC ?_) | ((with_reducible apply k_v); rfl) | ((with_reducible refine k_bnd ?_ ?_); (first | omega | (simp; omega) | skip)) | ((with_reducible refine And.intro ?_ ?_); (first | rfl | exact Nat.le_of_ble_eq_true rfl | omega | (simp; done))) | ((with_reducible apply k_exe); rfl) | ((with_reducible first | apply k_condT | apply k_aug | apply k_lenO | apply k_tupO | apply k_isi | apply k_is | apply k_isn | apply k_ixT | apply k_ixL); rfl) | ((with_reducible apply k_condF); rfl) | ((with_reducible first | apply k_ixO | apply k_putI); rfl; rfl) | ((with_reducible first | apply k_lenS | apply k_mod | apply k_addS | apply k_mulI | apply k_addT | apply k_rep); (first | omega | (simp; omega) | (with_reducible assumption) | decide))))
          refine k_ixT a2 ?_
          (repeat (first | (with_reducible first | refine k_seq ?_ | refine k_set ?_ | refine k_ret ?_ | refine k_c ?_ | refine k_call ?_ | refine k_aC ?_ | refine k_aN ?_ | refine k_2 ?_ | refine k_1 ?_ | refine k_tOf ?_ | refine k_sIf ?_ | refine k_B ?_ | refine k_tup ?_ | refine k_lst ?_ | refine k_new ?_ | refine k_addI ?_ | refine k_subI ?_ | refine k_eqI ?_ | refine k_neI ?_ | refine k_ltI ?_ | refine k_leI ?_ | refine k_gtI ?_ | refine k_geI ?_ | refine k_eqS ?_ | refine k_neS ?_ | refine k_for ?_ | refine k_forR ?_ | refine k_forG ?_ | refine k_pass ?_ | refine k_ex ?_ | refine k_retN ?_ | refine k_brk ?_ | refine k_cont ?_ | refine k_asg ?_ | refine k_setI ?_ | refine k_sl2 ?_ | refine k_slL ?_ | refine k_slH ?_ | refine k_app ?_ | refine k_ext ?_ | refine k_bk ?_ | refine k_no ?_ | refine k_tNo ?_ | refine k_tYs ?_ | refine k_if ?_ | refine k_gc ?_ | refine k_3B ?_ | refine k_lenT ?_ | refine k_lenL ?_ | refine k_lenC ?_ | refine k_tupT ?_ | refine k_tupL ?_ | refine k_lstL ?_ | refine k_lstC ?_ | refine k_lstT ?_ | refine k_ltS ?_ | refine k_m1 ?_ | refine k_m0 ?_ | refine k_cnt ?_ | refine k_min2 ?_ | refine k_eqB ?_ | refine k_neB ?_ | refine k_slT ?_ | refine k_slL' ?_ | refine k_slC ?_) | ((with_reducible apply k_v); rfl) | ((with_reducible refine k_bnd ?_ ?_); (first | omega | (simp; omega) | skip)) | ((with_reducible refine And.intro ?_ ?_); (first | rfl | exact Nat.le_of_ble_eq_true rfl | omega | (simp; done))) | ((with_reducible apply k_exe); rfl) | ((with_reducible first | apply k_condT | apply k_aug | apply k_lenO | apply k_tupO | apply k_isi | apply k_is | apply k_isn | apply k_ixT | apply k_ixL); rfl) | ((with_reducible apply k_condF); rfl) | ((with_reducible first | apply k_ixO | apply k_putI); rfl; rfl) | ((with_reducible first | apply k_lenS | apply k_mod | apply k_addS | apply k_mulI | apply k_addT | apply k_rep); (first | omega | (simp; omega) | (with_reducible assumption) | decide))))
          have hne2 : ds[i] ≠ es[i] := fun z => by
            rw [(teq_iff t1 t2).mpr z] at hne; cases hne
          refine ih _ _ t1 t2 (by omega) ?_
          (repeat (first | (with_reducible first | refine k_seq ?_ | refine k_set ?_ | refine k_ret ?_ | refine k_c ?_ | refine k_call ?_ | refine k_aC ?_ | refine k_aN ?_ | refine k_2 ?_ | refine k_1 ?_ | refine k_tOf ?_ | refine k_sIf ?_ | refine k_B ?_ | refine k_tup ?_ | refine k_lst ?_ | refine k_new ?_ | refine k_addI ?_ | refine k_subI ?_ | refine k_eqI ?_ | refine k_neI ?_ | refine k_ltI ?_ | refine k_leI ?_ | refine k_gtI ?_ | refine k_geI ?_ | refine k_eqS ?_ | refine k_neS ?_ | refine k_for ?_ | refine k_forR ?_ | refine k_forG ?_ | refine k_pass ?_ | refine k_ex ?_ | refine k_retN ?_ | refine k_brk ?_ | refine k_cont ?_ | refine k_asg ?_ | refine k_setI ?_ | refine k_sl2 ?_ | refine k_slL ?_ | refine k_slH ?_ | refine k_app ?_ | refine k_ext ?_ | refine k_bk ?_ | refine k_no ?_ | refine k_tNo ?_ | refine k_tYs ?_ | refine k_if ?_ | refine k_gc ?_ | refine k_3B ?_ | refine k_lenT ?_ | refine k_lenL ?_ | refine k_lenC ?_ | refine k_tupT ?_ | refine k_tupL ?_ | refine k_lstL ?_ | refine k_lstC ?_ | refine k_lstT ?_ | refine k_ltS ?_ | refine k_m1 ?_ | refine k_m0 ?_ | refine k_cnt ?_ | refine k_min2 ?_ | refine k_eqB ?_ | refine k_neB ?_ | refine k_slT ?_ | refine k_slL' ?_ | refine k_slC ?_) | ((with_reducible apply k_v); rfl) | ((with_reducible refine k_bnd ?_ ?_); (first | omega | (simp; omega) | skip)) | ((with_reducible refine And.intro ?_ ?_); (first | rfl | exact Nat.le_of_ble_eq_true rfl | omega | (simp; done))) | ((with_reducible apply k_exe); rfl) | ((with_reducible first | apply k_condT | apply k_aug | apply k_lenO | apply k_tupO | apply k_isi | apply k_is | apply k_isn | apply k_ixT | apply k_ixL); rfl) | ((with_reducible apply k_condF); rfl) | ((with_reducible first | apply k_ixO | apply k_putI); rfl; rfl) | ((with_reducible first | apply k_lenS | apply k_mod | apply k_addS | apply k_mulI | apply k_addT | apply k_rep); (first | omega | (simp; omega) | (with_reducible assumption) | decide))))
          rw [← enc_at i ds es _ _ hp g1 g2 t1 t2 hne2, ← tlt_tup]
          exact h
        · (repeat (first | (with_reducible first | refine k_seq ?_ | refine k_set ?_ | refine k_ret ?_ | refine k_c ?_ | refine k_call ?_ | refine k_aC ?_ | refine k_aN ?_ | refine k_2 ?_ | refine k_1 ?_ | refine k_tOf ?_ | refine k_sIf ?_ | refine k_B ?_ | refine k_tup ?_ | refine k_lst ?_ | refine k_new ?_ | refine k_addI ?_ | refine k_subI ?_ | refine k_eqI ?_ | refine k_neI ?_ | refine k_ltI ?_ | refine k_leI ?_ | refine k_gtI ?_ | refine k_geI ?_ | refine k_eqS ?_ | refine k_neS ?_ | refine k_for ?_ | refine k_forR ?_ | refine k_forG ?_ | refine k_pass ?_ | refine k_ex ?_ | refine k_retN ?_ | refine k_brk ?_ | refine k_cont ?_ | refine k_asg ?_ | refine k_setI ?_ | refine k_sl2 ?_ | refine k_slL ?_ | refine k_slH ?_ | refine k_app ?_ | refine k_ext ?_ | refine k_bk ?_ | refine k_no ?_ | refine k_tNo ?_ | refine k_tYs ?_ | refine k_if ?_ | refine k_gc ?_ | refine k_3B ?_ | refine k_lenT ?_ | refine k_lenL ?_ | refine k_lenC ?_ | refine k_tupT ?_ | refine k_tupL ?_ | refine k_lstL ?_ | refine k_lstC ?_ | refine k_lstT ?_ | refine k_ltS ?_ | refine k_m1 ?_ | refine k_m0 ?_ | refine k_cnt ?_ | refine k_min2 ?_ | refine k_eqB ?_ | refine k_neB ?_ | refine k_slT ?_ | refine k_slL' ?_ | refine k_slC ?_) | ((with_reducible apply k_v); rfl) | ((with_reducible refine k_bnd ?_ ?_); (first | omega | (simp; omega) | skip)) | ((with_reducible refine And.intro ?_ ?_); (first | rfl | exact Nat.le_of_ble_eq_true rfl | omega | (simp; done))) | ((with_reducible apply k_exe); rfl) | ((with_reducible first | apply k_condT | apply k_aug | apply k_lenO | apply k_tupO | apply k_isi | apply k_is | apply k_isn | apply k_ixT | apply k_ixL); rfl) | ((with_reducible apply k_condF); rfl) | ((with_reducible first | apply k_ixO | apply k_putI); rfl; rfl) | ((with_reducible first | apply k_lenS | apply k_mod | apply k_addS | apply k_mulI | apply k_addT | apply k_rep); (first | omega | (simp; omega) | (with_reducible assumption) | decide))))
          have he2 : ds[i] = es[i] := (teq_iff t1 t2).mp (by simpa using he)
          rw [Nat.zero_add, List.take_add_one, List.take_add_one, hp, g1, g2, he2]
      · rintro _ _ ⟨x, rfl, rfl, hp⟩
        rw [rng_len, Nat.zero_add] at hp
        refine ⟨True.intro, ?_⟩
        (repeat (first | (with_reducible first | refine k_seq ?_ | refine k_set ?_ | refine k_ret ?_ | refine k_c ?_ | refine k_call ?_ | refine k_aC ?_ | refine k_aN ?_ | refine k_2 ?_ | refine k_1 ?_ | refine k_tOf ?_ | refine k_sIf ?_ | refine k_B ?_ | refine k_tup ?_ | refine k_lst ?_ | refine k_new ?_ | refine k_addI ?_ | refine k_subI ?_ | refine k_eqI ?_ | refine k_neI ?_ | refine k_ltI ?_ | refine k_leI ?_ | refine k_gtI ?_ | refine k_geI ?_ | refine k_eqS ?_ | refine k_neS ?_ | refine k_for ?_ | refine k_forR ?_ | refine k_forG ?_ | refine k_pass ?_ | refine k_ex ?_ | refine k_retN ?_ | refine k_brk ?_ | refine k_cont ?_ | refine k_asg ?_ | refine k_setI ?_ | refine k_sl2 ?_ | refine k_slL ?_ | refine k_slH ?_ | refine k_app ?_ | refine k_ext ?_ | refine k_bk ?_ | refine k_no ?_ | refine k_tNo ?_ | refine k_tYs ?_ | refine k_if ?_ | refine k_gc ?_ | refine k_3B ?_ | refine k_lenT ?_ | refine k_lenL ?_ | refine k_lenC ?_ | refine k_tupT ?_ | refine k_tupL ?_ | refine k_lstL ?_ | refine k_lstC ?_ | refine k_lstT ?_ | refine k_ltS ?_ | refine k_m1 ?_ | refine k_m0 ?_ | refine k_cnt ?_ | refine k_min2 ?_ | refine k_eqB ?_ | refine k_neB ?_ | refine k_slT ?_ | refine k_slL' ?_ | refine k_slC ?_) | ((with_reducible apply k_v); rfl) | ((with_reducible refine k_bnd ?_ ?_); (first | omega | (simp; omega) | skip)) | ((with_reducible refine And.intro ?_ ?_); (first | rfl | exact Nat.le_of_ble_eq_true rfl | omega | (simp; done))) | ((with_reducible apply k_exe); rfl) | ((with_reducible first | apply k_condT | apply k_aug | apply k_lenO | apply k_tupO | apply k_isi | apply k_is | apply k_isn | apply k_ixT | apply k_ixL); rfl) | ((with_reducible apply k_condF); rfl) | ((with_reducible first | apply k_ixO | apply k_putI); rfl; rfl) | ((with_reducible first | apply k_lenS | apply k_mod | apply k_addS | apply k_mulI | apply k_addT | apply k_rep); (first | omega | (simp; omega) | (with_reducible assumption) | decide))))
        have e1 : tlt (.tup ds) (.tup es) = decide ((ds.length : Int) < es.length) := by
          rw [tlt_tup, enc_len ds es hp]
          simp
        rw [← e1]
        exact h
end Law

namespace Law
open PySem PySem.Spec PyProof.Rows L2 DL
/-! ### good trees -/
/-- a tree by its measures -/
def sm : Nat → D → Prop
  | _, .str x => x.length ≤ 300 ∧ Sg x
  | n + 1, .tup ds => ds.length ≤ 40 ∧ ∀ d ∈ ds, sm n d
  | _, _ => False
theorem sm_tr : ∀ {n : Nat} {d : D}, sm n d → tr n d := by
  intro n
  induction n with
  | zero => intro d h; cases d <;> first | exact h.elim | exact ⟨by have := h.1; omega, h.2⟩
  | succ n ih =>
    intro d h
    cases d <;> first | exact False.elim h | skip
    · exact ⟨by have := h.1; omega, h.2⟩
    · exact ⟨by have := h.1; omega, fun d hd => ih (h.2 d hd)⟩
theorem sm_mono : ∀ {n m : Nat} {d : D}, sm n d → n ≤ m → sm m d := by
  intro n
  induction n with
  | zero => intro m d h _; cases d <;> first | exact h.elim | (cases m <;> exact h)
  | succ n ih =>
    intro m d h hm
    obtain ⟨m, rfl⟩ : ∃ k, m = k + 1 := ⟨m - 1, by omega⟩
    cases d <;> first | exact False.elim h | exact ⟨h.1, fun d hd => ih (h.2 d hd) (by omega)⟩ | exact h
theorem good_sm : ∀ (n : Nat) (k : Nat) (d : D), (ms n d).1 = true → (ms n d).2.2 ≤ (k : Int) → sm k d := by
  have leaf : ∀ (n k : Nat) (x : Str), (ms n (.str x)).1 = true → sm k (.str x) := fun n k x h => by
    rw [ms_str] at h
    simp only [Bool.and_eq_true, decide_eq_true_eq, List.all_eq_true] at h
    cases k <;> exact ⟨by omega, h.2⟩
  intro n
  induction n with
  | zero =>
    intro k d h1 h2
    cases d <;> first | exact leaf _ _ _ h1 | cases h1
  | succ n ih =>
    intro k d h1 h2
    cases d <;> first | exact leaf _ _ _ h1 | (cases h1; done) | skip
    rename_i ds
    simp only [ms, Bool.and_eq_true, decide_eq_true_eq, List.all_eq_true] at h1 h2
    have h0 : (0 : Int) ≤ maxD 0 (ds.map fun d => (ms n d).2.2) := by
      cases ds with
      | nil => exact Int.le_refl _
      | cons d ds =>
        have h5 : ∀ (n : Nat) (d : D), 0 ≤ (ms n d).2.2 := by
          intro n
          induction n with
          | zero => intro d; cases d <;> first | exact Int.le_refl _ | exact (by decide : (0 : Int) ≤ 1)
          | succ n ih5 =>
            intro d
            cases d <;> first | exact Int.le_refl _ | exact (by decide : (0 : Int) ≤ 1) | skip
            rename_i es
            show 0 ≤ 1 + maxD 0 (es.map fun d => (ms n d).2.2)
            cases es with
            | nil => exact (by decide : (0 : Int) ≤ 1 + 0)
            | cons e es =>
              have := le_maxD (d := 0) (y := (ms n e).2.2) (ns := (e :: es).map fun d => (ms n d).2.2) (by simp)
              have := ih5 e
              omega
        have := le_maxD (d := 0) (y := (ms n d).2.2) (ns := (d :: ds).map fun d => (ms n d).2.2) (by simp)
        have := h5 n d
        omega
    obtain ⟨k, rfl⟩ : ∃ j, k = j + 1 := ⟨k - 1, by omega⟩
    refine ⟨by omega, fun d hd => ih k d (h1.2 d hd) ?_⟩
    have := le_maxD (d := 0) (y := (ms n d).2.2) (ns := ds.map fun d => (ms n d).2.2) (List.mem_map.mpr ⟨d, hd, rfl⟩)
    omega
theorem tt_size : ∀ (n : Nat) (d : D), tr n d → (((tt d).length : Nat) : Int) + 1 ≤ 4 * (ms n d).2.1 := by
  have leaf : ∀ (n : Nat) (x : Str), (((tt (.str x)).length : Nat) : Int) + 1 ≤ 4 * (ms n (.str x)).2.1 := fun n x => by
    rw [ms_str]
    have := esc_len x.cps.toList
    have := slen x
    rw [tt, List.length_cons, List.length_append, List.length_singleton]
    simp only
    omega
  intro n
  induction n with
  | zero => intro d h; cases d <;> first | exact h.elim | exact leaf _ _
  | succ n ih =>
    intro d h
    cases d <;> first | exact False.elim h | exact leaf _ _ | skip
    rename_i ds
    have all : ∀ ds : List D, (∀ d ∈ ds, tr n d) → (((ttr ds).length : Nat) : Int) ≤ 4 * (ds.map fun d => (ms n d).2.1).sum := by
      intro ds
      induction ds with
      | nil => intro _; exact (by decide : (0 : Int) ≤ 4 * 0)
      | cons d ds ih2 =>
        intro hd
        have h1 := ih d (hd d (by simp))
        have h2 := ih2 fun z hz => hd z (by simp [hz])
        rw [ttr, List.length_cons, List.length_append, List.map_cons, List.sum_cons]
        omega
    have h1 := all ds h.2
    have h2 : (tts ds).length ≤ (ttr ds).length := by
      cases ds with
      | nil => decide
      | cons d ds => rw [tts, ttr, List.length_cons]; omega
    show (((tt (.tup ds)).length : Nat) : Int) + 1 ≤ 4 * (1 + (ds.map fun d => (ms n d).2.1).sum)
    rw [tt, List.length_cons, List.length_append, List.length_singleton]
    omega
/-- a good tree -/
structure Gt (d : D) : Prop where
  s : sm 12 d
  t : (tt d).length ≤ 2400
theorem treeB_gt {d : D} (h : treeB d = true) (hd : tr 59 d) : Gt d := by
  unfold treeB at h
  simp only [Bool.and_eq_true, decide_eq_true_eq] at h
  have := tt_size 59 d hd
  exact ⟨good_sm 59 12 d h.1 h.2.2, by omega⟩
theorem Gt.tr {d : D} (h : Gt d) : tr 12 d := sm_tr h.s
theorem str_good {n : Nat} {x : Str} (h : x.length ≤ 300) (hs : Sg x) : treeB (.str x) = true := by
  unfold treeB
  rw [ms_str]
  have h2 : x.cps.toList.all (fun c => decide (c ∈ sgs)) = true := List.all_eq_true.mpr fun c hc => decide_eq_true (hs c hc)
  simp [h2]
  omega
theorem good_tree_s {S : Sto} {k : Nat} {a b : Int} {Q : QE} {X : QX} (hk : S[k]? = some (.lst [.int a, .int b])) (p : Pot a b) (h : ∀ d a' b', Gt d → Pot a' b' → Q d (S.set k (.lst [.int a', .int b']))) : OkE (callS m__law_good_tree [.obj k] S) Q X := by
  refine OkE_callL hk rfl rfl rfl ?_
  simp only [List.map_cons, List.map_nil, mapO, List.idxOf_cons_self]
  unfold m__law_good_tree
  refine k_fnD ?_
  unfold b__law_good_tree
  (repeat (first | (with_reducible first | refine k_seq ?_ | refine k_set ?_ | refine k_ret ?_ | refine k_c ?_ | refine k_call ?_ | refine k_aC ?_ | refine k_aN ?_ | refine k_2 ?_ | refine k_1 ?_ | refine k_tOf ?_ | refine k_sIf ?_ | refine k_B ?_ | refine k_tup ?_ | refine k_lst ?_ | refine k_new ?_ | refine k_addI ?_ | refine k_subI ?_ | refine k_eqI ?_ | refine k_neI ?_ | refine k_ltI ?_ | refine k_leI ?_ | refine k_gtI ?_ | refine k_geI ?_ | refine k_eqS ?_ | refine k_neS ?_ | refine k_for ?_ | refine k_forR ?_ | refine k_forG ?_ | refine k_pass ?_ | refine k_ex ?_ | refine k_retN ?_ | refine k_brk ?_ | refine k_cont ?_ | refine k_asg ?_ | refine k_setI ?_ | refine k_sl2 ?_ | refine k_slL ?_ | refine k_slH ?_ | refine k_app ?_ | refine k_ext ?_ | refine k_bk ?_ | refine k_no ?_ | refine k_tNo ?_ | refine k_tYs ?_ | refine k_if ?_ | refine k_gc ?_ | refine k_3B ?_ | refine k_lenT ?_ | refine k_lenL ?_ | refine k_lenC ?_ | refine k_tupT ?_ | refine k_tupL ?_ | refine k_lstL ?_ | refine k_lstC ?_ | refine k_lstT ?_ | refine k_ltS ?_ | refine k_m1 ?_ | refine k_m0 ?_ | refine k_cnt ?_ | refine k_min2 ?_ | refine k_eqB ?_ | refine k_neB ?_ | refine k_slT ?_ | refine k_slL' ?_ | refine k_slC ?_) | ((with_reducible apply k_v); rfl) | ((with_reducible refine k_bnd ?_ ?_); (first | omega | (simp; omega) | skip)) | ((with_reducible refine And.intro ?_ ?_); (first | rfl | exact Nat.le_of_ble_eq_true rfl | omega | (simp; done))) | ((with_reducible apply k_exe); rfl) | ((with_reducible first | apply k_condT | apply k_aug | apply k_lenO | apply k_tupO | apply k_isi | apply k_is | apply k_isn | apply k_ixT | apply k_ixL); rfl) | ((with_reducible apply k_condF); rfl) | ((with_reducible first | apply k_ixO | apply k_putI); rfl; rfl) | ((with_reducible first | apply k_lenS | apply k_mod | apply k_addS | apply k_mulI | apply k_addT | apply k_rep); (first | omega | (simp; omega) | (with_reducible assumption) | decide))))
  refine tree_s 60 3 (by decide) rfl p fun d1 a1 b1 t1 p1 => ?_
  (repeat (first | (with_reducible first | refine k_seq ?_ | refine k_set ?_ | refine k_ret ?_ | refine k_c ?_ | refine k_call ?_ | refine k_aC ?_ | refine k_aN ?_ | refine k_2 ?_ | refine k_1 ?_ | refine k_tOf ?_ | refine k_sIf ?_ | refine k_B ?_ | refine k_tup ?_ | refine k_lst ?_ | refine k_new ?_ | refine k_addI ?_ | refine k_subI ?_ | refine k_eqI ?_ | refine k_neI ?_ | refine k_ltI ?_ | refine k_leI ?_ | refine k_gtI ?_ | refine k_geI ?_ | refine k_eqS ?_ | refine k_neS ?_ | refine k_for ?_ | refine k_forR ?_ | refine k_forG ?_ | refine k_pass ?_ | refine k_ex ?_ | refine k_retN ?_ | refine k_brk ?_ | refine k_cont ?_ | refine k_asg ?_ | refine k_setI ?_ | refine k_sl2 ?_ | refine k_slL ?_ | refine k_slH ?_ | refine k_app ?_ | refine k_ext ?_ | refine k_bk ?_ | refine k_no ?_ | refine k_tNo ?_ | refine k_tYs ?_ | refine k_if ?_ | refine k_gc ?_ | refine k_3B ?_ | refine k_lenT ?_ | refine k_lenL ?_ | refine k_lenC ?_ | refine k_tupT ?_ | refine k_tupL ?_ | refine k_lstL ?_ | refine k_lstC ?_ | refine k_lstT ?_ | refine k_ltS ?_ | refine k_m1 ?_ | refine k_m0 ?_ | refine k_cnt ?_ | refine k_min2 ?_ | refine k_eqB ?_ | refine k_neB ?_ | refine k_slT ?_ | refine k_slL' ?_ | refine k_slC ?_) | ((with_reducible apply k_v); rfl) | ((with_reducible refine k_bnd ?_ ?_); (first | omega | (simp; omega) | skip)) | ((with_reducible refine And.intro ?_ ?_); (first | rfl | exact Nat.le_of_ble_eq_true rfl | omega | (simp; done))) | ((with_reducible apply k_exe); rfl) | ((with_reducible first | apply k_condT | apply k_aug | apply k_lenO | apply k_tupO | apply k_isi | apply k_is | apply k_isn | apply k_ixT | apply k_ixL); rfl) | ((with_reducible apply k_condF); rfl) | ((with_reducible first | apply k_ixO | apply k_putI); rfl; rfl) | ((with_reducible first | apply k_lenS | apply k_mod | apply k_addS | apply k_mulI | apply k_addT | apply k_rep); (first | omega | (simp; omega) | (with_reducible assumption) | decide))))
  refine OkS_wh (fun n e S => ∃ t a b, e = [some (.obj 0), some t] ∧ S = [.lst [.int a, .int b]] ∧ Pot a b ∧ tr 42 t ∧ ((n = 0 ∧ treeB t = true) ∨ ∃ m, n = m + 1 ∧ tr m t)) (n := 43) (fun n e S => ?_) ⟨d1, a1, b1, rfl, rfl, p1, t1, .inr ⟨42, rfl, t1⟩⟩
  rintro ⟨t, a, b, rfl, rfl, p, h42, hn⟩
  have h59 := tr_mono h42 (show 42 ≤ 59 by decide)
  refine k_tNo ?_
  (repeat (first | (with_reducible first | refine k_seq ?_ | refine k_set ?_ | refine k_ret ?_ | refine k_c ?_ | refine k_call ?_ | refine k_aC ?_ | refine k_aN ?_ | refine k_2 ?_ | refine k_1 ?_ | refine k_tOf ?_ | refine k_sIf ?_ | refine k_B ?_ | refine k_tup ?_ | refine k_lst ?_ | refine k_new ?_ | refine k_addI ?_ | refine k_subI ?_ | refine k_eqI ?_ | refine k_neI ?_ | refine k_ltI ?_ | refine k_leI ?_ | refine k_gtI ?_ | refine k_geI ?_ | refine k_eqS ?_ | refine k_neS ?_ | refine k_for ?_ | refine k_forR ?_ | refine k_forG ?_ | refine k_pass ?_ | refine k_ex ?_ | refine k_retN ?_ | refine k_brk ?_ | refine k_cont ?_ | refine k_asg ?_ | refine k_setI ?_ | refine k_sl2 ?_ | refine k_slL ?_ | refine k_slH ?_ | refine k_app ?_ | refine k_ext ?_ | refine k_bk ?_ | refine k_no ?_ | refine k_tNo ?_ | refine k_tYs ?_ | refine k_if ?_ | refine k_gc ?_ | refine k_3B ?_ | refine k_lenT ?_ | refine k_lenL ?_ | refine k_lenC ?_ | refine k_tupT ?_ | refine k_tupL ?_ | refine k_lstL ?_ | refine k_lstC ?_ | refine k_lstT ?_ | refine k_ltS ?_ | refine k_m1 ?_ | refine k_m0 ?_ | refine k_cnt ?_ | refine k_min2 ?_ | refine k_eqB ?_ | refine k_neB ?_ | refine k_slT ?_ | refine k_slL' ?_ | refine k_slC ?_) | ((with_reducible apply k_v); rfl) | ((with_reducible refine k_bnd ?_ ?_); (first | omega | (simp; omega) | skip)) | ((with_reducible refine And.intro ?_ ?_); (first | rfl | exact Nat.le_of_ble_eq_true rfl | omega | (simp; done))) | ((with_reducible apply k_exe); rfl) | ((with_reducible first | apply k_condT | apply k_aug | apply k_lenO | apply k_tupO | apply k_isi | apply k_is | apply k_isn | apply k_ixT | apply k_ixL); rfl) | ((with_reducible apply k_condF); rfl) | ((with_reducible first | apply k_ixO | apply k_putI); rfl; rfl) | ((with_reducible first | apply k_lenS | apply k_mod | apply k_addS | apply k_mulI | apply k_addT | apply k_rep); (first | omega | (simp; omega) | (with_reducible assumption) | decide))))
  refine law_is_tree_s (tr_wf h59) ?_
  (repeat (first | (with_reducible first | refine k_seq ?_ | refine k_set ?_ | refine k_ret ?_ | refine k_c ?_ | refine k_call ?_ | refine k_aC ?_ | refine k_aN ?_ | refine k_2 ?_ | refine k_1 ?_ | refine k_tOf ?_ | refine k_sIf ?_ | refine k_B ?_ | refine k_tup ?_ | refine k_lst ?_ | refine k_new ?_ | refine k_addI ?_ | refine k_subI ?_ | refine k_eqI ?_ | refine k_neI ?_ | refine k_ltI ?_ | refine k_leI ?_ | refine k_gtI ?_ | refine k_geI ?_ | refine k_eqS ?_ | refine k_neS ?_ | refine k_for ?_ | refine k_forR ?_ | refine k_forG ?_ | refine k_pass ?_ | refine k_ex ?_ | refine k_retN ?_ | refine k_brk ?_ | refine k_cont ?_ | refine k_asg ?_ | refine k_setI ?_ | refine k_sl2 ?_ | refine k_slL ?_ | refine k_slH ?_ | refine k_app ?_ | refine k_ext ?_ | refine k_bk ?_ | refine k_no ?_ | refine k_tNo ?_ | refine k_tYs ?_ | refine k_if ?_ | refine k_gc ?_ | refine k_3B ?_ | refine k_lenT ?_ | refine k_lenL ?_ | refine k_lenC ?_ | refine k_tupT ?_ | refine k_tupL ?_ | refine k_lstL ?_ | refine k_lstC ?_ | refine k_lstT ?_ | refine k_ltS ?_ | refine k_m1 ?_ | refine k_m0 ?_ | refine k_cnt ?_ | refine k_min2 ?_ | refine k_eqB ?_ | refine k_neB ?_ | refine k_slT ?_ | refine k_slL' ?_ | refine k_slC ?_) | ((with_reducible apply k_v); rfl) | ((with_reducible refine k_bnd ?_ ?_); (first | omega | (simp; omega) | skip)) | ((with_reducible refine And.intro ?_ ?_); (first | rfl | exact Nat.le_of_ble_eq_true rfl | omega | (simp; done))) | ((with_reducible apply k_exe); rfl) | ((with_reducible first | apply k_condT | apply k_aug | apply k_lenO | apply k_tupO | apply k_isi | apply k_is | apply k_isn | apply k_ixT | apply k_ixL); rfl) | ((with_reducible apply k_condF); rfl) | ((with_reducible first | apply k_ixO | apply k_putI); rfl; rfl) | ((with_reducible first | apply k_lenS | apply k_mod | apply k_addS | apply k_mulI | apply k_addT | apply k_rep); (first | omega | (simp; omega) | (with_reducible assumption) | decide))))
  cases hz : treeB t with
  | true =>
    refine ⟨(fun z => by cases z), fun _ => ?_⟩
    (repeat (first | (with_reducible first | refine k_seq ?_ | refine k_set ?_ | refine k_ret ?_ | refine k_c ?_ | refine k_call ?_ | refine k_aC ?_ | refine k_aN ?_ | refine k_2 ?_ | refine k_1 ?_ | refine k_tOf ?_ | refine k_sIf ?_ | refine k_B ?_ | refine k_tup ?_ | refine k_lst ?_ | refine k_new ?_ | refine k_addI ?_ | refine k_subI ?_ | refine k_eqI ?_ | refine k_neI ?_ | refine k_ltI ?_ | refine k_leI ?_ | refine k_gtI ?_ | refine k_geI ?_ | refine k_eqS ?_ | refine k_neS ?_ | refine k_for ?_ | refine k_forR ?_ | refine k_forG ?_ | refine k_pass ?_ | refine k_ex ?_ | refine k_retN ?_ | refine k_brk ?_ | refine k_cont ?_ | refine k_asg ?_ | refine k_setI ?_ | refine k_sl2 ?_ | refine k_slL ?_ | refine k_slH ?_ | refine k_app ?_ | refine k_ext ?_ | refine k_bk ?_ | refine k_no ?_ | refine k_tNo ?_ | refine k_tYs ?_ | refine k_if ?_ | refine k_gc ?_ | refine k_3B ?_ | refine k_lenT ?_ | refine k_lenL ?_ | refine k_lenC ?_ | refine k_tupT ?_ | refine k_tupL ?_ | refine k_lstL ?_ | refine k_lstC ?_ | refine k_lstT ?_ | refine k_ltS ?_ | refine k_m1 ?_ | refine k_m0 ?_ | refine k_cnt ?_ | refine k_min2 ?_ | refine k_eqB ?_ | refine k_neB ?_ | refine k_slT ?_ | refine k_slL' ?_ | refine k_slC ?_) | ((with_reducible apply k_v); rfl) | ((with_reducible refine k_bnd ?_ ?_); (first | omega | (simp; omega) | skip)) | ((with_reducible refine And.intro ?_ ?_); (first | rfl | exact Nat.le_of_ble_eq_true rfl | omega | (simp; done))) | ((with_reducible apply k_exe); rfl) | ((with_reducible first | apply k_condT | apply k_aug | apply k_lenO | apply k_tupO | apply k_isi | apply k_is | apply k_isn | apply k_ixT | apply k_ixL); rfl) | ((with_reducible apply k_condF); rfl) | ((with_reducible first | apply k_ixO | apply k_putI); rfl; rfl) | ((with_reducible first | apply k_lenS | apply k_mod | apply k_addS | apply k_mulI | apply k_addT | apply k_rep); (first | omega | (simp; omega) | (with_reducible assumption) | decide))))
    have hg := treeB_gt hz h59
    have hc := tr_cl hg.tr
    have hs : ∀ S, still 1 S t = t := fun S => by cases t <;> first | rfl | (cases hc; done)
    have hl : low 1 t = true := cl_low hc
    show (low 1 (still 1 _ t) = true ∧ _) ∧ _
    simp only [List.length_singleton, hs]
    exact ⟨⟨hl, rfl⟩, _, rfl, rfl, hc, h _ _ _ hg p⟩
  | false =>
    refine ⟨fun _ => ?_, (fun z => by cases z)⟩
    obtain ⟨m, rfl, hm⟩ := hn.resolve_left fun z => by rw [z.2] at hz; cases hz
    have kinds : (∃ x, t = .str x) ∨ ∃ ds, t = .tup ds := by
      cases m <;> cases t <;> first | exact False.elim hm | exact .inl ⟨_, rfl⟩ | exact .inr ⟨_, rfl⟩
    rcases kinds with ⟨x, rfl⟩ | ⟨ds, rfl⟩
    · have hx : x.length ≤ 1000 ∧ Sg x := h42
      have hpos : 300 < x.length := Nat.lt_of_not_le fun z => by
        rw [str_good (n := 0) z hx.2] at hz; cases hz
      (repeat (first | (with_reducible first | refine k_seq ?_ | refine k_set ?_ | refine k_ret ?_ | refine k_c ?_ | refine k_call ?_ | refine k_aC ?_ | refine k_aN ?_ | refine k_2 ?_ | refine k_1 ?_ | refine k_tOf ?_ | refine k_sIf ?_ | refine k_B ?_ | refine k_tup ?_ | refine k_lst ?_ | refine k_new ?_ | refine k_addI ?_ | refine k_subI ?_ | refine k_eqI ?_ | refine k_neI ?_ | refine k_ltI ?_ | refine k_leI ?_ | refine k_gtI ?_ | refine k_geI ?_ | refine k_eqS ?_ | refine k_neS ?_ | refine k_for ?_ | refine k_forR ?_ | refine k_forG ?_ | refine k_pass ?_ | refine k_ex ?_ | refine k_retN ?_ | refine k_brk ?_ | refine k_cont ?_ | refine k_asg ?_ | refine k_setI ?_ | refine k_sl2 ?_ | refine k_slL ?_ | refine k_slH ?_ | refine k_app ?_ | refine k_ext ?_ | refine k_bk ?_ | refine k_no ?_ | refine k_tNo ?_ | refine k_tYs ?_ | refine k_if ?_ | refine k_gc ?_ | refine k_3B ?_ | refine k_lenT ?_ | refine k_lenL ?_ | refine k_lenC ?_ | refine k_tupT ?_ | refine k_tupL ?_ | refine k_lstL ?_ | refine k_lstC ?_ | refine k_lstT ?_ | refine k_ltS ?_ | refine k_m1 ?_ | refine k_m0 ?_ | refine k_cnt ?_ | refine k_min2 ?_ | refine k_eqB ?_ | refine k_neB ?_ | refine k_slT ?_ | refine k_slL' ?_ | refine k_slC ?_) | ((with_reducible apply k_v); rfl) | ((with_reducible refine k_bnd ?_ ?_); (first | omega | (simp; omega) | skip)) | ((with_reducible refine And.intro ?_ ?_); (first | rfl | exact Nat.le_of_ble_eq_true rfl | omega | (simp; done))) | ((with_reducible apply k_exe); rfl) | ((with_reducible first | apply k_condT | apply k_aug | apply k_lenO | apply k_tupO | apply k_isi | apply k_is | apply k_isn | apply k_ixT | apply k_ixL); rfl) | ((with_reducible apply k_condF); rfl) | ((with_reducible first | apply k_ixO | apply k_putI); rfl; rfl) | ((with_reducible first | apply k_lenS | apply k_mod | apply k_addS | apply k_mulI | apply k_addT | apply k_rep); (first | omega | (simp; omega) | (with_reducible assumption) | decide))))
      refine take_s rfl p (by omega) (by omega) fun d2 a2 b2 l2 u2 p2 => ?_
      obtain ⟨j, hj, hjm⟩ := at_lt (xs := x.cps.toList) l2 (by rw [← slen]; omega)
      refine k_ixS (by omega) hj ?_
      have h1 : (Str.mk #[j]).length = 1 := rfl
      have hsg : Sg ⟨#[j]⟩ := .one (hx.2 j hjm)
      exact ⟨0, by omega, _, _, _, rfl, rfl, p2, ⟨by rw [h1]; decide, hsg⟩, .inl ⟨rfl, str_good (n := 0) (by rw [h1]; decide) hsg⟩⟩
    · cases m with
      | zero => exact False.elim hm
      | succ m =>
        have hl := hm.1
        have hpos : 0 < ds.length := by
          cases ds with
          | nil => exact absurd hz (by decide)
          | cons d ds => exact Nat.succ_pos _
        (repeat (first | (with_reducible first | refine k_seq ?_ | refine k_set ?_ | refine k_ret ?_ | refine k_c ?_ | refine k_call ?_ | refine k_aC ?_ | refine k_aN ?_ | refine k_2 ?_ | refine k_1 ?_ | refine k_tOf ?_ | refine k_sIf ?_ | refine k_B ?_ | refine k_tup ?_ | refine k_lst ?_ | refine k_new ?_ | refine k_addI ?_ | refine k_subI ?_ | refine k_eqI ?_ | refine k_neI ?_ | refine k_ltI ?_ | refine k_leI ?_ | refine k_gtI ?_ | refine k_geI ?_ | refine k_eqS ?_ | refine k_neS ?_ | refine k_for ?_ | refine k_forR ?_ | refine k_forG ?_ | refine k_pass ?_ | refine k_ex ?_ | refine k_retN ?_ | refine k_brk ?_ | refine k_cont ?_ | refine k_asg ?_ | refine k_setI ?_ | refine k_sl2 ?_ | refine k_slL ?_ | refine k_slH ?_ | refine k_app ?_ | refine k_ext ?_ | refine k_bk ?_ | refine k_no ?_ | refine k_tNo ?_ | refine k_tYs ?_ | refine k_if ?_ | refine k_gc ?_ | refine k_3B ?_ | refine k_lenT ?_ | refine k_lenL ?_ | refine k_lenC ?_ | refine k_tupT ?_ | refine k_tupL ?_ | refine k_lstL ?_ | refine k_lstC ?_ | refine k_lstT ?_ | refine k_ltS ?_ | refine k_m1 ?_ | refine k_m0 ?_ | refine k_cnt ?_ | refine k_min2 ?_ | refine k_eqB ?_ | refine k_neB ?_ | refine k_slT ?_ | refine k_slL' ?_ | refine k_slC ?_) | ((with_reducible apply k_v); rfl) | ((with_reducible refine k_bnd ?_ ?_); (first | omega | (simp; omega) | skip)) | ((with_reducible refine And.intro ?_ ?_); (first | rfl | exact Nat.le_of_ble_eq_true rfl | omega | (simp; done))) | ((with_reducible apply k_exe); rfl) | ((with_reducible first | apply k_condT | apply k_aug | apply k_lenO | apply k_tupO | apply k_isi | apply k_is | apply k_isn | apply k_ixT | apply k_ixL); rfl) | ((with_reducible apply k_condF); rfl) | ((with_reducible first | apply k_ixO | apply k_putI); rfl; rfl) | ((with_reducible first | apply k_lenS | apply k_mod | apply k_addS | apply k_mulI | apply k_addT | apply k_rep); (first | omega | (simp; omega) | (with_reducible assumption) | decide))))
        refine take_s rfl p (by omega) (by omega) fun d2 a2 b2 l2 u2 p2 => ?_
        obtain ⟨j, hj, hjm⟩ := at_lt (xs := ds) l2 (by omega)
        refine k_ixT hj ?_
        exact ⟨m + 1, by omega, _, _, _, rfl, rfl, p2, tr_mono (h42.2 j hjm) (by decide), .inr ⟨m, rfl, hm.2 j hjm⟩⟩
end Law

namespace Law
open PySem PySem.Spec PyProof.Rows L2 DL
theorem k_drop {ds : List D} {lo hi : Option Int} : ∀ d ∈ (ds.drop (HT.sIx ds.length 0 lo)).take (HT.sIx ds.length ds.length hi - HT.sIx ds.length 0 lo), d ∈ ds := fun d hd => List.mem_of_mem_drop (List.mem_of_mem_take hd)
theorem like_s : ∀ (f n : Nat) (d : D), n < f → sm n d → ∀ {S : Sto} {k : Nat} {a b : Int} {Q : QE} {X : QX}, S[k]? = some (.lst [.int a, .int b]) → Pot a b → (∀ d a' b', tr (n + 13) d → Pot a' b' → Q d (S.set k (.lst [.int a', .int b']))) → n ≤ 12 → OkE (callS (m__law_like f) [d, .obj k] S) Q X := by
  intro f
  induction f with
  | zero => intro n d h; omega
  | succ f ih =>
    intro n d hf hd S k a b Q X hk p h hn
    have hcl := tr_cl (sm_tr hd)
    have hmap : ∀ f, mapO f d = d := (cl_flat hcl).2.1
    have htop : tops [d, .obj k] = [k] := by cases n <;> cases d <;> first | exact False.elim hd | rfl
    refine OkE_callL hk htop (by simp [(cl_flat hcl).1]; rfl) rfl ?_
    simp only [List.map_cons, List.map_nil, hmap, mapO, List.idxOf_cons_self]
    show OkE (fnD 5 (b__law_like (m__law_like f)) _ _) _ _
    refine k_fnD ?_
    unfold b__law_like
    (repeat (first | (with_reducible first | refine k_seq ?_ | refine k_set ?_ | refine k_ret ?_ | refine k_c ?_ | refine k_call ?_ | refine k_aC ?_ | refine k_aN ?_ | refine k_2 ?_ | refine k_1 ?_ | refine k_tOf ?_ | refine k_sIf ?_ | refine k_B ?_ | refine k_tup ?_ | refine k_lst ?_ | refine k_new ?_ | refine k_addI ?_ | refine k_subI ?_ | refine k_eqI ?_ | refine k_neI ?_ | refine k_ltI ?_ | refine k_leI ?_ | refine k_gtI ?_ | refine k_geI ?_ | refine k_eqS ?_ | refine k_neS ?_ | refine k_for ?_ | refine k_forR ?_ | refine k_forG ?_ | refine k_pass ?_ | refine k_ex ?_ | refine k_retN ?_ | refine k_brk ?_ | refine k_cont ?_ | refine k_asg ?_ | refine k_setI ?_ | refine k_sl2 ?_ | refine k_slL ?_ | refine k_slH ?_ | refine k_app ?_ | refine k_ext ?_ | refine k_bk ?_ | refine k_no ?_ | refine k_tNo ?_ | refine k_tYs ?_ | refine k_if ?_ | refine k_gc ?_ | refine k_3B ?_ | refine k_lenT ?_ | refine k_lenL ?_ | refine k_lenC ?_ | refine k_tupT ?_ | refine k_tupL ?_ | refine k_lstL ?_ | refine k_lstC ?_ | refine k_lstT ?_ | refine k_ltS ?_ | refine k_m1 ?_ | refine k_m0 ?_ | refine k_cnt ?_ | refine k_min2 ?_ | refine k_eqB ?_ | refine k_neB ?_ | refine k_slT ?_ | refine k_slL' ?_ | refine k_slC ?_) | ((with_reducible apply k_v); rfl) | ((with_reducible refine k_bnd ?_ ?_); (first | omega | (simp; omega) | skip)) | ((with_reducible refine And.intro ?_ ?_); (first | rfl | exact Nat.le_of_ble_eq_true rfl | omega | (simp; done))) | ((with_reducible apply k_exe); rfl) | ((with_reducible first | apply k_condT | apply k_aug | apply k_lenO | apply k_tupO | apply k_isi | apply k_is | apply k_isn | apply k_ixT | apply k_ixL); rfl) | ((with_reducible apply k_condF); rfl) | ((with_reducible first | apply k_ixO | apply k_putI); rfl; rfl) | ((with_reducible first | apply k_lenS | apply k_mod | apply k_addS | apply k_mulI | apply k_addT | apply k_rep); (first | omega | (simp; omega) | (with_reducible assumption) | decide))))
    refine good_tree_s rfl p fun t1 a1 b1 g1 p1 => ?_
    have fin : ∀ (t : D) (a' b' : Int), tr (n + 13) t → Pot a' b' → (low [Cell.lst [.int a, .int b]].length (still [Cell.lst [.int a, .int b]].length [Cell.lst [.int a', .int b']] t) = true ∧ (List.take [Cell.lst [.int a, .int b]].length [Cell.lst [.int a', .int b']]).all (lowC [Cell.lst [.int a, .int b]].length) = true) ∧ ∃ ys, List.take [Cell.lst [.int a, .int b]].length [Cell.lst [.int a', .int b']] = [.lst ys] ∧ cls ys = true ∧ cl (still [Cell.lst [.int a, .int b]].length [Cell.lst [.int a', .int b']] t) = true ∧ Q (still [Cell.lst [.int a, .int b]].length [Cell.lst [.int a', .int b']] t) (S.set k (.lst ys)) := fun t a' b' ht p => by
      have hc := tr_cl ht
      have hs : ∀ S, still 1 S t = t := fun S => by cases t <;> first | rfl | (cases hc; done)
      simp only [List.length_singleton, hs]
      exact ⟨⟨cl_low hc, rfl⟩, _, rfl, rfl, hc, h _ _ _ ht p⟩
    cases n with
    | zero =>
      cases d <;> first | exact False.elim hd | skip
      (repeat (first | (with_reducible first | refine k_seq ?_ | refine k_set ?_ | refine k_ret ?_ | refine k_c ?_ | refine k_call ?_ | refine k_aC ?_ | refine k_aN ?_ | refine k_2 ?_ | refine k_1 ?_ | refine k_tOf ?_ | refine k_sIf ?_ | refine k_B ?_ | refine k_tup ?_ | refine k_lst ?_ | refine k_new ?_ | refine k_addI ?_ | refine k_subI ?_ | refine k_eqI ?_ | refine k_neI ?_ | refine k_ltI ?_ | refine k_leI ?_ | refine k_gtI ?_ | refine k_geI ?_ | refine k_eqS ?_ | refine k_neS ?_ | refine k_for ?_ | refine k_forR ?_ | refine k_forG ?_ | refine k_pass ?_ | refine k_ex ?_ | refine k_retN ?_ | refine k_brk ?_ | refine k_cont ?_ | refine k_asg ?_ | refine k_setI ?_ | refine k_sl2 ?_ | refine k_slL ?_ | refine k_slH ?_ | refine k_app ?_ | refine k_ext ?_ | refine k_bk ?_ | refine k_no ?_ | refine k_tNo ?_ | refine k_tYs ?_ | refine k_if ?_ | refine k_gc ?_ | refine k_3B ?_ | refine k_lenT ?_ | refine k_lenL ?_ | refine k_lenC ?_ | refine k_tupT ?_ | refine k_tupL ?_ | refine k_lstL ?_ | refine k_lstC ?_ | refine k_lstT ?_ | refine k_ltS ?_ | refine k_m1 ?_ | refine k_m0 ?_ | refine k_cnt ?_ | refine k_min2 ?_ | refine k_eqB ?_ | refine k_neB ?_ | refine k_slT ?_ | refine k_slL' ?_ | refine k_slC ?_) | ((with_reducible apply k_v); rfl) | ((with_reducible refine k_bnd ?_ ?_); (first | omega | (simp; omega) | skip)) | ((with_reducible refine And.intro ?_ ?_); (first | rfl | exact Nat.le_of_ble_eq_true rfl | omega | (simp; done))) | ((with_reducible apply k_exe); rfl) | ((with_reducible first | apply k_condT | apply k_aug | apply k_lenO | apply k_tupO | apply k_isi | apply k_is | apply k_isn | apply k_ixT | apply k_ixL); rfl) | ((with_reducible apply k_condF); rfl) | ((with_reducible first | apply k_ixO | apply k_putI); rfl; rfl) | ((with_reducible first | apply k_lenS | apply k_mod | apply k_addS | apply k_mulI | apply k_addT | apply k_rep); (first | omega | (simp; omega) | (with_reducible assumption) | decide))))
      refine k_tO ?_
      (repeat (first | (with_reducible first | refine k_seq ?_ | refine k_set ?_ | refine k_ret ?_ | refine k_c ?_ | refine k_call ?_ | refine k_aC ?_ | refine k_aN ?_ | refine k_2 ?_ | refine k_1 ?_ | refine k_tOf ?_ | refine k_sIf ?_ | refine k_B ?_ | refine k_tup ?_ | refine k_lst ?_ | refine k_new ?_ | refine k_addI ?_ | refine k_subI ?_ | refine k_eqI ?_ | refine k_neI ?_ | refine k_ltI ?_ | refine k_leI ?_ | refine k_gtI ?_ | refine k_geI ?_ | refine k_eqS ?_ | refine k_neS ?_ | refine k_for ?_ | refine k_forR ?_ | refine k_forG ?_ | refine k_pass ?_ | refine k_ex ?_ | refine k_retN ?_ | refine k_brk ?_ | refine k_cont ?_ | refine k_asg ?_ | refine k_setI ?_ | refine k_sl2 ?_ | refine k_slL ?_ | refine k_slH ?_ | refine k_app ?_ | refine k_ext ?_ | refine k_bk ?_ | refine k_no ?_ | refine k_tNo ?_ | refine k_tYs ?_ | refine k_if ?_ | refine k_gc ?_ | refine k_3B ?_ | refine k_lenT ?_ | refine k_lenL ?_ | refine k_lenC ?_ | refine k_tupT ?_ | refine k_tupL ?_ | refine k_lstL ?_ | refine k_lstC ?_ | refine k_lstT ?_ | refine k_ltS ?_ | refine k_m1 ?_ | refine k_m0 ?_ | refine k_cnt ?_ | refine k_min2 ?_ | refine k_eqB ?_ | refine k_neB ?_ | refine k_slT ?_ | refine k_slL' ?_ | refine k_slC ?_) | ((with_reducible apply k_v); rfl) | ((with_reducible refine k_bnd ?_ ?_); (first | omega | (simp; omega) | skip)) | ((with_reducible refine And.intro ?_ ?_); (first | rfl | exact Nat.le_of_ble_eq_true rfl | omega | (simp; done))) | ((with_reducible apply k_exe); rfl) | ((with_reducible first | apply k_condT | apply k_aug | apply k_lenO | apply k_tupO | apply k_isi | apply k_is | apply k_isn | apply k_ixT | apply k_ixL); rfl) | ((with_reducible apply k_condF); rfl) | ((with_reducible first | apply k_ixO | apply k_putI); rfl; rfl) | ((with_reducible first | apply k_lenS | apply k_mod | apply k_addS | apply k_mulI | apply k_addT | apply k_rep); (first | omega | (simp; omega) | (with_reducible assumption) | decide))))
      exact fin _ _ _ (tr_mono g1.tr (by omega)) p1
    | succ n =>
      cases d <;> first | exact False.elim hd | skip
      · (repeat (first | (with_reducible first | refine k_seq ?_ | refine k_set ?_ | refine k_ret ?_ | refine k_c ?_ | refine k_call ?_ | refine k_aC ?_ | refine k_aN ?_ | refine k_2 ?_ | refine k_1 ?_ | refine k_tOf ?_ | refine k_sIf ?_ | refine k_B ?_ | refine k_tup ?_ | refine k_lst ?_ | refine k_new ?_ | refine k_addI ?_ | refine k_subI ?_ | refine k_eqI ?_ | refine k_neI ?_ | refine k_ltI ?_ | refine k_leI ?_ | refine k_gtI ?_ | refine k_geI ?_ | refine k_eqS ?_ | refine k_neS ?_ | refine k_for ?_ | refine k_forR ?_ | refine k_forG ?_ | refine k_pass ?_ | refine k_ex ?_ | refine k_retN ?_ | refine k_brk ?_ | refine k_cont ?_ | refine k_asg ?_ | refine k_setI ?_ | refine k_sl2 ?_ | refine k_slL ?_ | refine k_slH ?_ | refine k_app ?_ | refine k_ext ?_ | refine k_bk ?_ | refine k_no ?_ | refine k_tNo ?_ | refine k_tYs ?_ | refine k_if ?_ | refine k_gc ?_ | refine k_3B ?_ | refine k_lenT ?_ | refine k_lenL ?_ | refine k_lenC ?_ | refine k_tupT ?_ | refine k_tupL ?_ | refine k_lstL ?_ | refine k_lstC ?_ | refine k_lstT ?_ | refine k_ltS ?_ | refine k_m1 ?_ | refine k_m0 ?_ | refine k_cnt ?_ | refine k_min2 ?_ | refine k_eqB ?_ | refine k_neB ?_ | refine k_slT ?_ | refine k_slL' ?_ | refine k_slC ?_) | ((with_reducible apply k_v); rfl) | ((with_reducible refine k_bnd ?_ ?_); (first | omega | (simp; omega) | skip)) | ((with_reducible refine And.intro ?_ ?_); (first | rfl | exact Nat.le_of_ble_eq_true rfl | omega | (simp; done))) | ((with_reducible apply k_exe); rfl) | ((with_reducible first | apply k_condT | apply k_aug | apply k_lenO | apply k_tupO | apply k_isi | apply k_is | apply k_isn | apply k_ixT | apply k_ixL); rfl) | ((with_reducible apply k_condF); rfl) | ((with_reducible first | apply k_ixO | apply k_putI); rfl; rfl) | ((with_reducible first | apply k_lenS | apply k_mod | apply k_addS | apply k_mulI | apply k_addT | apply k_rep); (first | omega | (simp; omega) | (with_reducible assumption) | decide))))
        refine k_tO ?_
        (repeat (first | (with_reducible first | refine k_seq ?_ | refine k_set ?_ | refine k_ret ?_ | refine k_c ?_ | refine k_call ?_ | refine k_aC ?_ | refine k_aN ?_ | refine k_2 ?_ | refine k_1 ?_ | refine k_tOf ?_ | refine k_sIf ?_ | refine k_B ?_ | refine k_tup ?_ | refine k_lst ?_ | refine k_new ?_ | refine k_addI ?_ | refine k_subI ?_ | refine k_eqI ?_ | refine k_neI ?_ | refine k_ltI ?_ | refine k_leI ?_ | refine k_gtI ?_ | refine k_geI ?_ | refine k_eqS ?_ | refine k_neS ?_ | refine k_for ?_ | refine k_forR ?_ | refine k_forG ?_ | refine k_pass ?_ | refine k_ex ?_ | refine k_retN ?_ | refine k_brk ?_ | refine k_cont ?_ | refine k_asg ?_ | refine k_setI ?_ | refine k_sl2 ?_ | refine k_slL ?_ | refine k_slH ?_ | refine k_app ?_ | refine k_ext ?_ | refine k_bk ?_ | refine k_no ?_ | refine k_tNo ?_ | refine k_tYs ?_ | refine k_if ?_ | refine k_gc ?_ | refine k_3B ?_ | refine k_lenT ?_ | refine k_lenL ?_ | refine k_lenC ?_ | refine k_tupT ?_ | refine k_tupL ?_ | refine k_lstL ?_ | refine k_lstC ?_ | refine k_lstT ?_ | refine k_ltS ?_ | refine k_m1 ?_ | refine k_m0 ?_ | refine k_cnt ?_ | refine k_min2 ?_ | refine k_eqB ?_ | refine k_neB ?_ | refine k_slT ?_ | refine k_slL' ?_ | refine k_slC ?_) | ((with_reducible apply k_v); rfl) | ((with_reducible refine k_bnd ?_ ?_); (first | omega | (simp; omega) | skip)) | ((with_reducible refine And.intro ?_ ?_); (first | rfl | exact Nat.le_of_ble_eq_true rfl | omega | (simp; done))) | ((with_reducible apply k_exe); rfl) | ((with_reducible first | apply k_condT | apply k_aug | apply k_lenO | apply k_tupO | apply k_isi | apply k_is | apply k_isn | apply k_ixT | apply k_ixL); rfl) | ((with_reducible apply k_condF); rfl) | ((with_reducible first | apply k_ixO | apply k_putI); rfl; rfl) | ((with_reducible first | apply k_lenS | apply k_mod | apply k_addS | apply k_mulI | apply k_addT | apply k_rep); (first | omega | (simp; omega) | (with_reducible assumption) | decide))))
        exact fin _ _ _ (tr_mono g1.tr (by omega)) p1
      · rename_i ds
        have hl := hd.1
        have hsub : ∀ d ∈ ds, tr (n + 13) d := fun d h => tr_mono (sm_tr (hd.2 d h)) (by omega)
        have ht1 : tr (n + 13) t1 := tr_mono g1.tr (by omega)
        (repeat (first | (with_reducible first | refine k_seq ?_ | refine k_set ?_ | refine k_ret ?_ | refine k_c ?_ | refine k_call ?_ | refine k_aC ?_ | refine k_aN ?_ | refine k_2 ?_ | refine k_1 ?_ | refine k_tOf ?_ | refine k_sIf ?_ | refine k_B ?_ | refine k_tup ?_ | refine k_lst ?_ | refine k_new ?_ | refine k_addI ?_ | refine k_subI ?_ | refine k_eqI ?_ | refine k_neI ?_ | refine k_ltI ?_ | refine k_leI ?_ | refine k_gtI ?_ | refine k_geI ?_ | refine k_eqS ?_ | refine k_neS ?_ | refine k_for ?_ | refine k_forR ?_ | refine k_forG ?_ | refine k_pass ?_ | refine k_ex ?_ | refine k_retN ?_ | refine k_brk ?_ | refine k_cont ?_ | refine k_asg ?_ | refine k_setI ?_ | refine k_sl2 ?_ | refine k_slL ?_ | refine k_slH ?_ | refine k_app ?_ | refine k_ext ?_ | refine k_bk ?_ | refine k_no ?_ | refine k_tNo ?_ | refine k_tYs ?_ | refine k_if ?_ | refine k_gc ?_ | refine k_3B ?_ | refine k_lenT ?_ | refine k_lenL ?_ | refine k_lenC ?_ | refine k_tupT ?_ | refine k_tupL ?_ | refine k_lstL ?_ | refine k_lstC ?_ | refine k_lstT ?_ | refine k_ltS ?_ | refine k_m1 ?_ | refine k_m0 ?_ | refine k_cnt ?_ | refine k_min2 ?_ | refine k_eqB ?_ | refine k_neB ?_ | refine k_slT ?_ | refine k_slL' ?_ | refine k_slC ?_) | ((with_reducible apply k_v); rfl) | ((with_reducible refine k_bnd ?_ ?_); (first | omega | (simp; omega) | skip)) | ((with_reducible refine And.intro ?_ ?_); (first | rfl | exact Nat.le_of_ble_eq_true rfl | omega | (simp; done))) | ((with_reducible apply k_exe); rfl) | ((with_reducible first | apply k_condT | apply k_aug | apply k_lenO | apply k_tupO | apply k_isi | apply k_is | apply k_isn | apply k_ixT | apply k_ixL); rfl) | ((with_reducible apply k_condF); rfl) | ((with_reducible first | apply k_ixO | apply k_putI); rfl; rfl) | ((with_reducible first | apply k_lenS | apply k_mod | apply k_addS | apply k_mulI | apply k_addT | apply k_rep); (first | omega | (simp; omega) | (with_reducible assumption) | decide))))
        refine k_tO ?_
        (repeat (first | (with_reducible first | refine k_seq ?_ | refine k_set ?_ | refine k_ret ?_ | refine k_c ?_ | refine k_call ?_ | refine k_aC ?_ | refine k_aN ?_ | refine k_2 ?_ | refine k_1 ?_ | refine k_tOf ?_ | refine k_sIf ?_ | refine k_B ?_ | refine k_tup ?_ | refine k_lst ?_ | refine k_new ?_ | refine k_addI ?_ | refine k_subI ?_ | refine k_eqI ?_ | refine k_neI ?_ | refine k_ltI ?_ | refine k_leI ?_ | refine k_gtI ?_ | refine k_geI ?_ | refine k_eqS ?_ | refine k_neS ?_ | refine k_for ?_ | refine k_forR ?_ | refine k_forG ?_ | refine k_pass ?_ | refine k_ex ?_ | refine k_retN ?_ | refine k_brk ?_ | refine k_cont ?_ | refine k_asg ?_ | refine k_setI ?_ | refine k_sl2 ?_ | refine k_slL ?_ | refine k_slH ?_ | refine k_app ?_ | refine k_ext ?_ | refine k_bk ?_ | refine k_no ?_ | refine k_tNo ?_ | refine k_tYs ?_ | refine k_if ?_ | refine k_gc ?_ | refine k_3B ?_ | refine k_lenT ?_ | refine k_lenL ?_ | refine k_lenC ?_ | refine k_tupT ?_ | refine k_tupL ?_ | refine k_lstL ?_ | refine k_lstC ?_ | refine k_lstT ?_ | refine k_ltS ?_ | refine k_m1 ?_ | refine k_m0 ?_ | refine k_cnt ?_ | refine k_min2 ?_ | refine k_eqB ?_ | refine k_neB ?_ | refine k_slT ?_ | refine k_slL' ?_ | refine k_slC ?_) | ((with_reducible apply k_v); rfl) | ((with_reducible refine k_bnd ?_ ?_); (first | omega | (simp; omega) | skip)) | ((with_reducible refine And.intro ?_ ?_); (first | rfl | exact Nat.le_of_ble_eq_true rfl | omega | (simp; done))) | ((with_reducible apply k_exe); rfl) | ((with_reducible first | apply k_condT | apply k_aug | apply k_lenO | apply k_tupO | apply k_isi | apply k_is | apply k_isn | apply k_ixT | apply k_ixL); rfl) | ((with_reducible apply k_condF); rfl) | ((with_reducible first | apply k_ixO | apply k_putI); rfl; rfl) | ((with_reducible first | apply k_lenS | apply k_mod | apply k_addS | apply k_mulI | apply k_addT | apply k_rep); (first | omega | (simp; omega) | (with_reducible assumption) | decide))))
        refine k_opt (eq_nil (sm_tr hd) (by omega)) ?_
        (repeat (first | (with_reducible first | refine k_seq ?_ | refine k_set ?_ | refine k_ret ?_ | refine k_c ?_ | refine k_call ?_ | refine k_aC ?_ | refine k_aN ?_ | refine k_2 ?_ | refine k_1 ?_ | refine k_tOf ?_ | refine k_sIf ?_ | refine k_B ?_ | refine k_tup ?_ | refine k_lst ?_ | refine k_new ?_ | refine k_addI ?_ | refine k_subI ?_ | refine k_eqI ?_ | refine k_neI ?_ | refine k_ltI ?_ | refine k_leI ?_ | refine k_gtI ?_ | refine k_geI ?_ | refine k_eqS ?_ | refine k_neS ?_ | refine k_for ?_ | refine k_forR ?_ | refine k_forG ?_ | refine k_pass ?_ | refine k_ex ?_ | refine k_retN ?_ | refine k_brk ?_ | refine k_cont ?_ | refine k_asg ?_ | refine k_setI ?_ | refine k_sl2 ?_ | refine k_slL ?_ | refine k_slH ?_ | refine k_app ?_ | refine k_ext ?_ | refine k_bk ?_ | refine k_no ?_ | refine k_tNo ?_ | refine k_tYs ?_ | refine k_if ?_ | refine k_gc ?_ | refine k_3B ?_ | refine k_lenT ?_ | refine k_lenL ?_ | refine k_lenC ?_ | refine k_tupT ?_ | refine k_tupL ?_ | refine k_lstL ?_ | refine k_lstC ?_ | refine k_lstT ?_ | refine k_ltS ?_ | refine k_m1 ?_ | refine k_m0 ?_ | refine k_cnt ?_ | refine k_min2 ?_ | refine k_eqB ?_ | refine k_neB ?_ | refine k_slT ?_ | refine k_slL' ?_ | refine k_slC ?_) | ((with_reducible apply k_v); rfl) | ((with_reducible refine k_bnd ?_ ?_); (first | omega | (simp; omega) | skip)) | ((with_reducible refine And.intro ?_ ?_); (first | rfl | exact Nat.le_of_ble_eq_true rfl | omega | (simp; done))) | ((with_reducible apply k_exe); rfl) | ((with_reducible first | apply k_condT | apply k_aug | apply k_lenO | apply k_tupO | apply k_isi | apply k_is | apply k_isn | apply k_ixT | apply k_ixL); rfl) | ((with_reducible apply k_condF); rfl) | ((with_reducible first | apply k_ixO | apply k_putI); rfl; rfl) | ((with_reducible first | apply k_lenS | apply k_mod | apply k_addS | apply k_mulI | apply k_addT | apply k_rep); (first | omega | (simp; omega) | (with_reducible assumption) | decide))))
        cases hds : ds.isEmpty with
        | true =>
          (repeat (first | (with_reducible first | refine k_seq ?_ | refine k_set ?_ | refine k_ret ?_ | refine k_c ?_ | refine k_call ?_ | refine k_aC ?_ | refine k_aN ?_ | refine k_2 ?_ | refine k_1 ?_ | refine k_tOf ?_ | refine k_sIf ?_ | refine k_B ?_ | refine k_tup ?_ | refine k_lst ?_ | refine k_new ?_ | refine k_addI ?_ | refine k_subI ?_ | refine k_eqI ?_ | refine k_neI ?_ | refine k_ltI ?_ | refine k_leI ?_ | refine k_gtI ?_ | refine k_geI ?_ | refine k_eqS ?_ | refine k_neS ?_ | refine k_for ?_ | refine k_forR ?_ | refine k_forG ?_ | refine k_pass ?_ | refine k_ex ?_ | refine k_retN ?_ | refine k_brk ?_ | refine k_cont ?_ | refine k_asg ?_ | refine k_setI ?_ | refine k_sl2 ?_ | refine k_slL ?_ | refine k_slH ?_ | refine k_app ?_ | refine k_ext ?_ | refine k_bk ?_ | refine k_no ?_ | refine k_tNo ?_ | refine k_tYs ?_ | refine k_if ?_ | refine k_gc ?_ | refine k_3B ?_ | refine k_lenT ?_ | refine k_lenL ?_ | refine k_lenC ?_ | refine k_tupT ?_ | refine k_tupL ?_ | refine k_lstL ?_ | refine k_lstC ?_ | refine k_lstT ?_ | refine k_ltS ?_ | refine k_m1 ?_ | refine k_m0 ?_ | refine k_cnt ?_ | refine k_min2 ?_ | refine k_eqB ?_ | refine k_neB ?_ | refine k_slT ?_ | refine k_slL' ?_ | refine k_slC ?_) | ((with_reducible apply k_v); rfl) | ((with_reducible refine k_bnd ?_ ?_); (first | omega | (simp; omega) | skip)) | ((with_reducible refine And.intro ?_ ?_); (first | rfl | exact Nat.le_of_ble_eq_true rfl | omega | (simp; done))) | ((with_reducible apply k_exe); rfl) | ((with_reducible first | apply k_condT | apply k_aug | apply k_lenO | apply k_tupO | apply k_isi | apply k_is | apply k_isn | apply k_ixT | apply k_ixL); rfl) | ((with_reducible apply k_condF); rfl) | ((with_reducible first | apply k_ixO | apply k_putI); rfl; rfl) | ((with_reducible first | apply k_lenS | apply k_mod | apply k_addS | apply k_mulI | apply k_addT | apply k_rep); (first | omega | (simp; omega) | (with_reducible assumption) | decide))))
          exact fin _ _ _ (tr_mono g1.tr (by omega)) p1
        | false =>
        have hpos : 0 < ds.length := by
          cases ds with
          | nil => cases hds
          | cons d ds => exact Nat.succ_pos _
        (repeat (first | (with_reducible first | refine k_seq ?_ | refine k_set ?_ | refine k_ret ?_ | refine k_c ?_ | refine k_call ?_ | refine k_aC ?_ | refine k_aN ?_ | refine k_2 ?_ | refine k_1 ?_ | refine k_tOf ?_ | refine k_sIf ?_ | refine k_B ?_ | refine k_tup ?_ | refine k_lst ?_ | refine k_new ?_ | refine k_addI ?_ | refine k_subI ?_ | refine k_eqI ?_ | refine k_neI ?_ | refine k_ltI ?_ | refine k_leI ?_ | refine k_gtI ?_ | refine k_geI ?_ | refine k_eqS ?_ | refine k_neS ?_ | refine k_for ?_ | refine k_forR ?_ | refine k_forG ?_ | refine k_pass ?_ | refine k_ex ?_ | refine k_retN ?_ | refine k_brk ?_ | refine k_cont ?_ | refine k_asg ?_ | refine k_setI ?_ | refine k_sl2 ?_ | refine k_slL ?_ | refine k_slH ?_ | refine k_app ?_ | refine k_ext ?_ | refine k_bk ?_ | refine k_no ?_ | refine k_tNo ?_ | refine k_tYs ?_ | refine k_if ?_ | refine k_gc ?_ | refine k_3B ?_ | refine k_lenT ?_ | refine k_lenL ?_ | refine k_lenC ?_ | refine k_tupT ?_ | refine k_tupL ?_ | refine k_lstL ?_ | refine k_lstC ?_ | refine k_lstT ?_ | refine k_ltS ?_ | refine k_m1 ?_ | refine k_m0 ?_ | refine k_cnt ?_ | refine k_min2 ?_ | refine k_eqB ?_ | refine k_neB ?_ | refine k_slT ?_ | refine k_slL' ?_ | refine k_slC ?_) | ((with_reducible apply k_v); rfl) | ((with_reducible refine k_bnd ?_ ?_); (first | omega | (simp; omega) | skip)) | ((with_reducible refine And.intro ?_ ?_); (first | rfl | exact Nat.le_of_ble_eq_true rfl | omega | (simp; done))) | ((with_reducible apply k_exe); rfl) | ((with_reducible first | apply k_condT | apply k_aug | apply k_lenO | apply k_tupO | apply k_isi | apply k_is | apply k_isn | apply k_ixT | apply k_ixL); rfl) | ((with_reducible apply k_condF); rfl) | ((with_reducible first | apply k_ixO | apply k_putI); rfl; rfl) | ((with_reducible first | apply k_lenS | apply k_mod | apply k_addS | apply k_mulI | apply k_addT | apply k_rep); (first | omega | (simp; omega) | (with_reducible assumption) | decide))))
        refine take_s rfl p1 (by omega) (by omega) fun d2 a2 b2 l2 u2 p2 => ?_
        obtain ⟨j, hj, hjm⟩ := at_lt (xs := ds) l2 (by omega)
        (repeat (first | (with_reducible first | refine k_seq ?_ | refine k_set ?_ | refine k_ret ?_ | refine k_c ?_ | refine k_call ?_ | refine k_aC ?_ | refine k_aN ?_ | refine k_2 ?_ | refine k_1 ?_ | refine k_tOf ?_ | refine k_sIf ?_ | refine k_B ?_ | refine k_tup ?_ | refine k_lst ?_ | refine k_new ?_ | refine k_addI ?_ | refine k_subI ?_ | refine k_eqI ?_ | refine k_neI ?_ | refine k_ltI ?_ | refine k_leI ?_ | refine k_gtI ?_ | refine k_geI ?_ | refine k_eqS ?_ | refine k_neS ?_ | refine k_for ?_ | refine k_forR ?_ | refine k_forG ?_ | refine k_pass ?_ | refine k_ex ?_ | refine k_retN ?_ | refine k_brk ?_ | refine k_cont ?_ | refine k_asg ?_ | refine k_setI ?_ | refine k_sl2 ?_ | refine k_slL ?_ | refine k_slH ?_ | refine k_app ?_ | refine k_ext ?_ | refine k_bk ?_ | refine k_no ?_ | refine k_tNo ?_ | refine k_tYs ?_ | refine k_if ?_ | refine k_gc ?_ | refine k_3B ?_ | refine k_lenT ?_ | refine k_lenL ?_ | refine k_lenC ?_ | refine k_tupT ?_ | refine k_tupL ?_ | refine k_lstL ?_ | refine k_lstC ?_ | refine k_lstT ?_ | refine k_ltS ?_ | refine k_m1 ?_ | refine k_m0 ?_ | refine k_cnt ?_ | refine k_min2 ?_ | refine k_eqB ?_ | refine k_neB ?_ | refine k_slT ?_ | refine k_slL' ?_ | refine k_slC ?_) | ((with_reducible apply k_v); rfl) | ((with_reducible refine k_bnd ?_ ?_); (first | omega | (simp; omega) | skip)) | ((with_reducible refine And.intro ?_ ?_); (first | rfl | exact Nat.le_of_ble_eq_true rfl | omega | (simp; done))) | ((with_reducible apply k_exe); rfl) | ((with_reducible first | apply k_condT | apply k_aug | apply k_lenO | apply k_tupO | apply k_isi | apply k_is | apply k_isn | apply k_ixT | apply k_ixL); rfl) | ((with_reducible apply k_condF); rfl) | ((with_reducible first | apply k_ixO | apply k_putI); rfl; rfl) | ((with_reducible first | apply k_lenS | apply k_mod | apply k_addS | apply k_mulI | apply k_addT | apply k_rep); (first | omega | (simp; omega) | (with_reducible assumption) | decide))))
        refine take_s rfl p2 (by decide) (by decide) fun d3 a3 b3 l3 u3 p3 => ?_
        (repeat (first | (with_reducible first | refine k_seq ?_ | refine k_set ?_ | refine k_ret ?_ | refine k_c ?_ | refine k_call ?_ | refine k_aC ?_ | refine k_aN ?_ | refine k_2 ?_ | refine k_1 ?_ | refine k_tOf ?_ | refine k_sIf ?_ | refine k_B ?_ | refine k_tup ?_ | refine k_lst ?_ | refine k_new ?_ | refine k_addI ?_ | refine k_subI ?_ | refine k_eqI ?_ | refine k_neI ?_ | refine k_ltI ?_ | refine k_leI ?_ | refine k_gtI ?_ | refine k_geI ?_ | refine k_eqS ?_ | refine k_neS ?_ | refine k_for ?_ | refine k_forR ?_ | refine k_forG ?_ | refine k_pass ?_ | refine k_ex ?_ | refine k_retN ?_ | refine k_brk ?_ | refine k_cont ?_ | refine k_asg ?_ | refine k_setI ?_ | refine k_sl2 ?_ | refine k_slL ?_ | refine k_slH ?_ | refine k_app ?_ | refine k_ext ?_ | refine k_bk ?_ | refine k_no ?_ | refine k_tNo ?_ | refine k_tYs ?_ | refine k_if ?_ | refine k_gc ?_ | refine k_3B ?_ | refine k_lenT ?_ | refine k_lenL ?_ | refine k_lenC ?_ | refine k_tupT ?_ | refine k_tupL ?_ | refine k_lstL ?_ | refine k_lstC ?_ | refine k_lstT ?_ | refine k_ltS ?_ | refine k_m1 ?_ | refine k_m0 ?_ | refine k_cnt ?_ | refine k_min2 ?_ | refine k_eqB ?_ | refine k_neB ?_ | refine k_slT ?_ | refine k_slL' ?_ | refine k_slC ?_) | ((with_reducible apply k_v); rfl) | ((with_reducible refine k_bnd ?_ ?_); (first | omega | (simp; omega) | skip)) | ((with_reducible refine And.intro ?_ ?_); (first | rfl | exact Nat.le_of_ble_eq_true rfl | omega | (simp; done))) | ((with_reducible apply k_exe); rfl) | ((with_reducible first | apply k_condT | apply k_aug | apply k_lenO | apply k_tupO | apply k_isi | apply k_is | apply k_isn | apply k_ixT | apply k_ixL); rfl) | ((with_reducible apply k_condF); rfl) | ((with_reducible first | apply k_ixO | apply k_putI); rfl; rfl) | ((with_reducible first | apply k_lenS | apply k_mod | apply k_addS | apply k_mulI | apply k_addT | apply k_rep); (first | omega | (simp; omega) | (with_reducible assumption) | decide))))
        refine ⟨fun h0 => ?_, fun h0 => ?_⟩
        · (repeat (first | (with_reducible first | refine k_seq ?_ | refine k_set ?_ | refine k_ret ?_ | refine k_c ?_ | refine k_call ?_ | refine k_aC ?_ | refine k_aN ?_ | refine k_2 ?_ | refine k_1 ?_ | refine k_tOf ?_ | refine k_sIf ?_ | refine k_B ?_ | refine k_tup ?_ | refine k_lst ?_ | refine k_new ?_ | refine k_addI ?_ | refine k_subI ?_ | refine k_eqI ?_ | refine k_neI ?_ | refine k_ltI ?_ | refine k_leI ?_ | refine k_gtI ?_ | refine k_geI ?_ | refine k_eqS ?_ | refine k_neS ?_ | refine k_for ?_ | refine k_forR ?_ | refine k_forG ?_ | refine k_pass ?_ | refine k_ex ?_ | refine k_retN ?_ | refine k_brk ?_ | refine k_cont ?_ | refine k_asg ?_ | refine k_setI ?_ | refine k_sl2 ?_ | refine k_slL ?_ | refine k_slH ?_ | refine k_app ?_ | refine k_ext ?_ | refine k_bk ?_ | refine k_no ?_ | refine k_tNo ?_ | refine k_tYs ?_ | refine k_if ?_ | refine k_gc ?_ | refine k_3B ?_ | refine k_lenT ?_ | refine k_lenL ?_ | refine k_lenC ?_ | refine k_tupT ?_ | refine k_tupL ?_ | refine k_lstL ?_ | refine k_lstC ?_ | refine k_lstT ?_ | refine k_ltS ?_ | refine k_m1 ?_ | refine k_m0 ?_ | refine k_cnt ?_ | refine k_min2 ?_ | refine k_eqB ?_ | refine k_neB ?_ | refine k_slT ?_ | refine k_slL' ?_ | refine k_slC ?_) | ((with_reducible apply k_v); rfl) | ((with_reducible refine k_bnd ?_ ?_); (first | omega | (simp; omega) | skip)) | ((with_reducible refine And.intro ?_ ?_); (first | rfl | exact Nat.le_of_ble_eq_true rfl | omega | (simp; done))) | ((with_reducible apply k_exe); rfl) | ((with_reducible first | apply k_condT | apply k_aug | apply k_lenO | apply k_tupO | apply k_isi | apply k_is | apply k_isn | apply k_ixT | apply k_ixL); rfl) | ((with_reducible apply k_condF); rfl) | ((with_reducible first | apply k_ixO | apply k_putI); rfl; rfl) | ((with_reducible first | apply k_lenS | apply k_mod | apply k_addS | apply k_mulI | apply k_addT | apply k_rep); (first | omega | (simp; omega) | (with_reducible assumption) | decide))))
          refine fin _ _ _ ⟨by simp; omega, fun d hd => ?_⟩ p3
          rcases List.mem_append.mp hd with hd | hd
          · exact hsub d (k_drop d hd)
          · exact hsub d (k_drop d hd)
        (repeat (first | (with_reducible first | refine k_seq ?_ | refine k_set ?_ | refine k_ret ?_ | refine k_c ?_ | refine k_call ?_ | refine k_aC ?_ | refine k_aN ?_ | refine k_2 ?_ | refine k_1 ?_ | refine k_tOf ?_ | refine k_sIf ?_ | refine k_B ?_ | refine k_tup ?_ | refine k_lst ?_ | refine k_new ?_ | refine k_addI ?_ | refine k_subI ?_ | refine k_eqI ?_ | refine k_neI ?_ | refine k_ltI ?_ | refine k_leI ?_ | refine k_gtI ?_ | refine k_geI ?_ | refine k_eqS ?_ | refine k_neS ?_ | refine k_for ?_ | refine k_forR ?_ | refine k_forG ?_ | refine k_pass ?_ | refine k_ex ?_ | refine k_retN ?_ | refine k_brk ?_ | refine k_cont ?_ | refine k_asg ?_ | refine k_setI ?_ | refine k_sl2 ?_ | refine k_slL ?_ | refine k_slH ?_ | refine k_app ?_ | refine k_ext ?_ | refine k_bk ?_ | refine k_no ?_ | refine k_tNo ?_ | refine k_tYs ?_ | refine k_if ?_ | refine k_gc ?_ | refine k_3B ?_ | refine k_lenT ?_ | refine k_lenL ?_ | refine k_lenC ?_ | refine k_tupT ?_ | refine k_tupL ?_ | refine k_lstL ?_ | refine k_lstC ?_ | refine k_lstT ?_ | refine k_ltS ?_ | refine k_m1 ?_ | refine k_m0 ?_ | refine k_cnt ?_ | refine k_min2 ?_ | refine k_eqB ?_ | refine k_neB ?_ | refine k_slT ?_ | refine k_slL' ?_ | refine k_slC ?_) | ((with_reducible apply k_v); rfl) | ((with_reducible refine k_bnd ?_ ?_); (first | omega | (simp; omega) | skip)) | ((with_reducible refine And.intro ?_ ?_); (first | rfl | exact Nat.le_of_ble_eq_true rfl | omega | (simp; done))) | ((with_reducible apply k_exe); rfl) | ((with_reducible first | apply k_condT | apply k_aug | apply k_lenO | apply k_tupO | apply k_isi | apply k_is | apply k_isn | apply k_ixT | apply k_ixL); rfl) | ((with_reducible apply k_condF); rfl) | ((with_reducible first | apply k_ixO | apply k_putI); rfl; rfl) | ((with_reducible first | apply k_lenS | apply k_mod | apply k_addS | apply k_mulI | apply k_addT | apply k_rep); (first | omega | (simp; omega) | (with_reducible assumption) | decide))))
        refine ⟨fun h1 => ?_, fun h1 => ?_⟩
        · (repeat (first | (with_reducible first | refine k_seq ?_ | refine k_set ?_ | refine k_ret ?_ | refine k_c ?_ | refine k_call ?_ | refine k_aC ?_ | refine k_aN ?_ | refine k_2 ?_ | refine k_1 ?_ | refine k_tOf ?_ | refine k_sIf ?_ | refine k_B ?_ | refine k_tup ?_ | refine k_lst ?_ | refine k_new ?_ | refine k_addI ?_ | refine k_subI ?_ | refine k_eqI ?_ | refine k_neI ?_ | refine k_ltI ?_ | refine k_leI ?_ | refine k_gtI ?_ | refine k_geI ?_ | refine k_eqS ?_ | refine k_neS ?_ | refine k_for ?_ | refine k_forR ?_ | refine k_forG ?_ | refine k_pass ?_ | refine k_ex ?_ | refine k_retN ?_ | refine k_brk ?_ | refine k_cont ?_ | refine k_asg ?_ | refine k_setI ?_ | refine k_sl2 ?_ | refine k_slL ?_ | refine k_slH ?_ | refine k_app ?_ | refine k_ext ?_ | refine k_bk ?_ | refine k_no ?_ | refine k_tNo ?_ | refine k_tYs ?_ | refine k_if ?_ | refine k_gc ?_ | refine k_3B ?_ | refine k_lenT ?_ | refine k_lenL ?_ | refine k_lenC ?_ | refine k_tupT ?_ | refine k_tupL ?_ | refine k_lstL ?_ | refine k_lstC ?_ | refine k_lstT ?_ | refine k_ltS ?_ | refine k_m1 ?_ | refine k_m0 ?_ | refine k_cnt ?_ | refine k_min2 ?_ | refine k_eqB ?_ | refine k_neB ?_ | refine k_slT ?_ | refine k_slL' ?_ | refine k_slC ?_) | ((with_reducible apply k_v); rfl) | ((with_reducible refine k_bnd ?_ ?_); (first | omega | (simp; omega) | skip)) | ((with_reducible refine And.intro ?_ ?_); (first | rfl | exact Nat.le_of_ble_eq_true rfl | omega | (simp; done))) | ((with_reducible apply k_exe); rfl) | ((with_reducible first | apply k_condT | apply k_aug | apply k_lenO | apply k_tupO | apply k_isi | apply k_is | apply k_isn | apply k_ixT | apply k_ixL); rfl) | ((with_reducible apply k_condF); rfl) | ((with_reducible first | apply k_ixO | apply k_putI); rfl; rfl) | ((with_reducible first | apply k_lenS | apply k_mod | apply k_addS | apply k_mulI | apply k_addT | apply k_rep); (first | omega | (simp; omega) | (with_reducible assumption) | decide))))
          refine fin _ _ _ ⟨by simp; omega, fun d hd => ?_⟩ p3
          rcases List.mem_append.mp hd with hd | hd
          · rcases List.mem_append.mp hd with hd | hd
            · exact hsub d (k_drop d hd)
            · rw [List.mem_singleton.mp hd]; exact ht1
          · exact hsub d (k_drop d hd)
        (repeat (first | (with_reducible first | refine k_seq ?_ | refine k_set ?_ | refine k_ret ?_ | refine k_c ?_ | refine k_call ?_ | refine k_aC ?_ | refine k_aN ?_ | refine k_2 ?_ | refine k_1 ?_ | refine k_tOf ?_ | refine k_sIf ?_ | refine k_B ?_ | refine k_tup ?_ | refine k_lst ?_ | refine k_new ?_ | refine k_addI ?_ | refine k_subI ?_ | refine k_eqI ?_ | refine k_neI ?_ | refine k_ltI ?_ | refine k_leI ?_ | refine k_gtI ?_ | refine k_geI ?_ | refine k_eqS ?_ | refine k_neS ?_ | refine k_for ?_ | refine k_forR ?_ | refine k_forG ?_ | refine k_pass ?_ | refine k_ex ?_ | refine k_retN ?_ | refine k_brk ?_ | refine k_cont ?_ | refine k_asg ?_ | refine k_setI ?_ | refine k_sl2 ?_ | refine k_slL ?_ | refine k_slH ?_ | refine k_app ?_ | refine k_ext ?_ | refine k_bk ?_ | refine k_no ?_ | refine k_tNo ?_ | refine k_tYs ?_ | refine k_if ?_ | refine k_gc ?_ | refine k_3B ?_ | refine k_lenT ?_ | refine k_lenL ?_ | refine k_lenC ?_ | refine k_tupT ?_ | refine k_tupL ?_ | refine k_lstL ?_ | refine k_lstC ?_ | refine k_lstT ?_ | refine k_ltS ?_ | refine k_m1 ?_ | refine k_m0 ?_ | refine k_cnt ?_ | refine k_min2 ?_ | refine k_eqB ?_ | refine k_neB ?_ | refine k_slT ?_ | refine k_slL' ?_ | refine k_slC ?_) | ((with_reducible apply k_v); rfl) | ((with_reducible refine k_bnd ?_ ?_); (first | omega | (simp; omega) | skip)) | ((with_reducible refine And.intro ?_ ?_); (first | rfl | exact Nat.le_of_ble_eq_true rfl | omega | (simp; done))) | ((with_reducible apply k_exe); rfl) | ((with_reducible first | apply k_condT | apply k_aug | apply k_lenO | apply k_tupO | apply k_isi | apply k_is | apply k_isn | apply k_ixT | apply k_ixL); rfl) | ((with_reducible apply k_condF); rfl) | ((with_reducible first | apply k_ixO | apply k_putI); rfl; rfl) | ((with_reducible first | apply k_lenS | apply k_mod | apply k_addS | apply k_mulI | apply k_addT | apply k_rep); (first | omega | (simp; omega) | (with_reducible assumption) | decide))))
        refine ⟨fun h2 => ?_, fun h2 => ?_⟩
        · (repeat (first | (with_reducible first | refine k_seq ?_ | refine k_set ?_ | refine k_ret ?_ | refine k_c ?_ | refine k_call ?_ | refine k_aC ?_ | refine k_aN ?_ | refine k_2 ?_ | refine k_1 ?_ | refine k_tOf ?_ | refine k_sIf ?_ | refine k_B ?_ | refine k_tup ?_ | refine k_lst ?_ | refine k_new ?_ | refine k_addI ?_ | refine k_subI ?_ | refine k_eqI ?_ | refine k_neI ?_ | refine k_ltI ?_ | refine k_leI ?_ | refine k_gtI ?_ | refine k_geI ?_ | refine k_eqS ?_ | refine k_neS ?_ | refine k_for ?_ | refine k_forR ?_ | refine k_forG ?_ | refine k_pass ?_ | refine k_ex ?_ | refine k_retN ?_ | refine k_brk ?_ | refine k_cont ?_ | refine k_asg ?_ | refine k_setI ?_ | refine k_sl2 ?_ | refine k_slL ?_ | refine k_slH ?_ | refine k_app ?_ | refine k_ext ?_ | refine k_bk ?_ | refine k_no ?_ | refine k_tNo ?_ | refine k_tYs ?_ | refine k_if ?_ | refine k_gc ?_ | refine k_3B ?_ | refine k_lenT ?_ | refine k_lenL ?_ | refine k_lenC ?_ | refine k_tupT ?_ | refine k_tupL ?_ | refine k_lstL ?_ | refine k_lstC ?_ | refine k_lstT ?_ | refine k_ltS ?_ | refine k_m1 ?_ | refine k_m0 ?_ | refine k_cnt ?_ | refine k_min2 ?_ | refine k_eqB ?_ | refine k_neB ?_ | refine k_slT ?_ | refine k_slL' ?_ | refine k_slC ?_) | ((with_reducible apply k_v); rfl) | ((with_reducible refine k_bnd ?_ ?_); (first | omega | (simp; omega) | skip)) | ((with_reducible refine And.intro ?_ ?_); (first | rfl | exact Nat.le_of_ble_eq_true rfl | omega | (simp; done))) | ((with_reducible apply k_exe); rfl) | ((with_reducible first | apply k_condT | apply k_aug | apply k_lenO | apply k_tupO | apply k_isi | apply k_is | apply k_isn | apply k_ixT | apply k_ixL); rfl) | ((with_reducible apply k_condF); rfl) | ((with_reducible first | apply k_ixO | apply k_putI); rfl; rfl) | ((with_reducible first | apply k_lenS | apply k_mod | apply k_addS | apply k_mulI | apply k_addT | apply k_rep); (first | omega | (simp; omega) | (with_reducible assumption) | decide))))
          refine fin _ _ _ ⟨by simp; omega, fun d hd => ?_⟩ p3
          rcases List.mem_append.mp hd with hd | hd
          · exact hsub d hd
          · rw [List.mem_singleton.mp hd]; exact ht1
        (repeat (first | (with_reducible first | refine k_seq ?_ | refine k_set ?_ | refine k_ret ?_ | refine k_c ?_ | refine k_call ?_ | refine k_aC ?_ | refine k_aN ?_ | refine k_2 ?_ | refine k_1 ?_ | refine k_tOf ?_ | refine k_sIf ?_ | refine k_B ?_ | refine k_tup ?_ | refine k_lst ?_ | refine k_new ?_ | refine k_addI ?_ | refine k_subI ?_ | refine k_eqI ?_ | refine k_neI ?_ | refine k_ltI ?_ | refine k_leI ?_ | refine k_gtI ?_ | refine k_geI ?_ | refine k_eqS ?_ | refine k_neS ?_ | refine k_for ?_ | refine k_forR ?_ | refine k_forG ?_ | refine k_pass ?_ | refine k_ex ?_ | refine k_retN ?_ | refine k_brk ?_ | refine k_cont ?_ | refine k_asg ?_ | refine k_setI ?_ | refine k_sl2 ?_ | refine k_slL ?_ | refine k_slH ?_ | refine k_app ?_ | refine k_ext ?_ | refine k_bk ?_ | refine k_no ?_ | refine k_tNo ?_ | refine k_tYs ?_ | refine k_if ?_ | refine k_gc ?_ | refine k_3B ?_ | refine k_lenT ?_ | refine k_lenL ?_ | refine k_lenC ?_ | refine k_tupT ?_ | refine k_tupL ?_ | refine k_lstL ?_ | refine k_lstC ?_ | refine k_lstT ?_ | refine k_ltS ?_ | refine k_m1 ?_ | refine k_m0 ?_ | refine k_cnt ?_ | refine k_min2 ?_ | refine k_eqB ?_ | refine k_neB ?_ | refine k_slT ?_ | refine k_slL' ?_ | refine k_slC ?_) | ((with_reducible apply k_v); rfl) | ((with_reducible refine k_bnd ?_ ?_); (first | omega | (simp; omega) | skip)) | ((with_reducible refine And.intro ?_ ?_); (first | rfl | exact Nat.le_of_ble_eq_true rfl | omega | (simp; done))) | ((with_reducible apply k_exe); rfl) | ((with_reducible first | apply k_condT | apply k_aug | apply k_lenO | apply k_tupO | apply k_isi | apply k_is | apply k_isn | apply k_ixT | apply k_ixL); rfl) | ((with_reducible apply k_condF); rfl) | ((with_reducible first | apply k_ixO | apply k_putI); rfl; rfl) | ((with_reducible first | apply k_lenS | apply k_mod | apply k_addS | apply k_mulI | apply k_addT | apply k_rep); (first | omega | (simp; omega) | (with_reducible assumption) | decide))))
        refine k_ixT hj ?_
        (repeat (first | (with_reducible first | refine k_seq ?_ | refine k_set ?_ | refine k_ret ?_ | refine k_c ?_ | refine k_call ?_ | refine k_aC ?_ | refine k_aN ?_ | refine k_2 ?_ | refine k_1 ?_ | refine k_tOf ?_ | refine k_sIf ?_ | refine k_B ?_ | refine k_tup ?_ | refine k_lst ?_ | refine k_new ?_ | refine k_addI ?_ | refine k_subI ?_ | refine k_eqI ?_ | refine k_neI ?_ | refine k_ltI ?_ | refine k_leI ?_ | refine k_gtI ?_ | refine k_geI ?_ | refine k_eqS ?_ | refine k_neS ?_ | refine k_for ?_ | refine k_forR ?_ | refine k_forG ?_ | refine k_pass ?_ | refine k_ex ?_ | refine k_retN ?_ | refine k_brk ?_ | refine k_cont ?_ | refine k_asg ?_ | refine k_setI ?_ | refine k_sl2 ?_ | refine k_slL ?_ | refine k_slH ?_ | refine k_app ?_ | refine k_ext ?_ | refine k_bk ?_ | refine k_no ?_ | refine k_tNo ?_ | refine k_tYs ?_ | refine k_if ?_ | refine k_gc ?_ | refine k_3B ?_ | refine k_lenT ?_ | refine k_lenL ?_ | refine k_lenC ?_ | refine k_tupT ?_ | refine k_tupL ?_ | refine k_lstL ?_ | refine k_lstC ?_ | refine k_lstT ?_ | refine k_ltS ?_ | refine k_m1 ?_ | refine k_m0 ?_ | refine k_cnt ?_ | refine k_min2 ?_ | refine k_eqB ?_ | refine k_neB ?_ | refine k_slT ?_ | refine k_slL' ?_ | refine k_slC ?_) | ((with_reducible apply k_v); rfl) | ((with_reducible refine k_bnd ?_ ?_); (first | omega | (simp; omega) | skip)) | ((with_reducible refine And.intro ?_ ?_); (first | rfl | exact Nat.le_of_ble_eq_true rfl | omega | (simp; done))) | ((with_reducible apply k_exe); rfl) | ((with_reducible first | apply k_condT | apply k_aug | apply k_lenO | apply k_tupO | apply k_isi | apply k_is | apply k_isn | apply k_ixT | apply k_ixL); rfl) | ((with_reducible apply k_condF); rfl) | ((with_reducible first | apply k_ixO | apply k_putI); rfl; rfl) | ((with_reducible first | apply k_lenS | apply k_mod | apply k_addS | apply k_mulI | apply k_addT | apply k_rep); (first | omega | (simp; omega) | (with_reducible assumption) | decide))))
        refine ih n j (by omega) (hd.2 j hjm) rfl p3 (fun t4 a4 b4 ht4 p4 => ?_) (by omega)
        (repeat (first | (with_reducible first | refine k_seq ?_ | refine k_set ?_ | refine k_ret ?_ | refine k_c ?_ | refine k_call ?_ | refine k_aC ?_ | refine k_aN ?_ | refine k_2 ?_ | refine k_1 ?_ | refine k_tOf ?_ | refine k_sIf ?_ | refine k_B ?_ | refine k_tup ?_ | refine k_lst ?_ | refine k_new ?_ | refine k_addI ?_ | refine k_subI ?_ | refine k_eqI ?_ | refine k_neI ?_ | refine k_ltI ?_ | refine k_leI ?_ | refine k_gtI ?_ | refine k_geI ?_ | refine k_eqS ?_ | refine k_neS ?_ | refine k_for ?_ | refine k_forR ?_ | refine k_forG ?_ | refine k_pass ?_ | refine k_ex ?_ | refine k_retN ?_ | refine k_brk ?_ | refine k_cont ?_ | refine k_asg ?_ | refine k_setI ?_ | refine k_sl2 ?_ | refine k_slL ?_ | refine k_slH ?_ | refine k_app ?_ | refine k_ext ?_ | refine k_bk ?_ | refine k_no ?_ | refine k_tNo ?_ | refine k_tYs ?_ | refine k_if ?_ | refine k_gc ?_ | refine k_3B ?_ | refine k_lenT ?_ | refine k_lenL ?_ | refine k_lenC ?_ | refine k_tupT ?_ | refine k_tupL ?_ | refine k_lstL ?_ | refine k_lstC ?_ | refine k_lstT ?_ | refine k_ltS ?_ | refine k_m1 ?_ | refine k_m0 ?_ | refine k_cnt ?_ | refine k_min2 ?_ | refine k_eqB ?_ | refine k_neB ?_ | refine k_slT ?_ | refine k_slL' ?_ | refine k_slC ?_) | ((with_reducible apply k_v); rfl) | ((with_reducible refine k_bnd ?_ ?_); (first | omega | (simp; omega) | skip)) | ((with_reducible refine And.intro ?_ ?_); (first | rfl | exact Nat.le_of_ble_eq_true rfl | omega | (simp; done))) | ((with_reducible apply k_exe); rfl) | ((with_reducible first | apply k_condT | apply k_aug | apply k_lenO | apply k_tupO | apply k_isi | apply k_is | apply k_isn | apply k_ixT | apply k_ixL); rfl) | ((with_reducible apply k_condF); rfl) | ((with_reducible first | apply k_ixO | apply k_putI); rfl; rfl) | ((with_reducible first | apply k_lenS | apply k_mod | apply k_addS | apply k_mulI | apply k_addT | apply k_rep); (first | omega | (simp; omega) | (with_reducible assumption) | decide))))
        refine fin _ _ _ ⟨by simp; omega, fun d hd => ?_⟩ p4
        rcases List.mem_append.mp hd with hd | hd
        · rcases List.mem_append.mp hd with hd | hd
          · exact hsub d (k_drop d hd)
          · rw [List.mem_singleton.mp hd]; exact ht4
        · exact hsub d (k_drop d hd)
end Law

namespace Law
open PySem PySem.Spec PyProof.Rows L2 DL
theorem pot_s {cell salt : Int} (h0 : 0 ≤ salt) (h1 : salt < 1000) {S : Sto} {Q : QE} {X : QX} (h : ∀ a b : Int, Pot a b → Q (.obj S.length) (S ++ [.lst [.int a, .int b]])) : OkE (callS m__law_pot [.int cell, .int salt] S) Q X := by
  have hp : (10 : Int) ^ (18 : Int).toNat = 1000000000000000000 := by decide
  refine OkE_call0K rfl ?_
  have back1 : ∀ c : List D, back [] S [.lst c] = S ++ [.lst c] := fun c => by
    unfold back
    simp [mapC]
    exact List.ext_getElem? fun i => by simp
  by_cases hc : 1000000000000000000 ≤ (if cell < 0 then -cell else cell)
  · have e : m__law_pot [.int cell, .int salt] [] = .ok (.obj 0) [.lst [.int (if cell < 0 then -cell else cell), .int salt]] := by
      simp [m__law_pot, b__law_pot, gAbs, gPow, hp, hc]
    rw [e]
    refine ⟨rfl, rfl, ?_⟩
    rw [back1]
    exact h _ _ ⟨by split <;> omega, h0, by omega⟩
  · have h2 := Int.emod_nonneg ((cell % 2147483647 + 7919 * salt + 11) * 48271) (show (2147483647 : Int) ≠ 0 by decide)
    have h3 := Int.emod_lt_of_pos ((cell % 2147483647 + 7919 * salt + 11) * 48271) (show (0 : Int) < 2147483647 by decide)
    have e : m__law_pot [.int cell, .int salt] [] = .ok (.obj 0) [.lst [.int 0, .int ((cell % 2147483647 + 7919 * salt + 11) * 48271 % 2147483647)]] := by
      simp [m__law_pot, b__law_pot, gAbs, gPow, hp, hc, gMod_int, gMul_int]
    rw [e]
    refine ⟨rfl, rfl, ?_⟩
    rw [back1]
    exact h _ _ ⟨by decide, h2, by omega⟩
theorem cls_ints (ns : List Int) : cls (ns.map D.int) = true := cls_of fun d hd => by
  obtain ⟨z, _, rfl⟩ := List.mem_map.mp hd
  rfl
def potL (p : Int × Int) : Cell := .lst [.int p.1, .int p.2]
theorem three_s {cs : List Int} (hcs : 0 < cs.length) {k : Int} {S : Sto} {Q : QE} {X : QX} (h : ∀ t0 t1 t2, Gt t0 → Gt t1 → Gt t2 → Q (.lst [t0, t1, t2]) S) : OkE (callS m__law_three [.lst (cs.map D.int), .int k] S) Q X := by
  refine OkE_call0 (by simp [cls_ints]) ?_
  unfold m__law_three
  refine k_fnD ?_
  unfold b__law_three
  (repeat (first | (with_reducible first | refine k_seq ?_ | refine k_set ?_ | refine k_ret ?_ | refine k_c ?_ | refine k_call ?_ | refine k_aC ?_ | refine k_aN ?_ | refine k_2 ?_ | refine k_1 ?_ | refine k_tOf ?_ | refine k_sIf ?_ | refine k_B ?_ | refine k_tup ?_ | refine k_lst ?_ | refine k_new ?_ | refine k_addI ?_ | refine k_subI ?_ | refine k_eqI ?_ | refine k_neI ?_ | refine k_ltI ?_ | refine k_leI ?_ | refine k_gtI ?_ | refine k_geI ?_ | refine k_eqS ?_ | refine k_neS ?_ | refine k_for ?_ | refine k_forR ?_ | refine k_forG ?_ | refine k_pass ?_ | refine k_ex ?_ | refine k_retN ?_ | refine k_brk ?_ | refine k_cont ?_ | refine k_asg ?_ | refine k_setI ?_ | refine k_sl2 ?_ | refine k_slL ?_ | refine k_slH ?_ | refine k_app ?_ | refine k_ext ?_ | refine k_bk ?_ | refine k_no ?_ | refine k_tNo ?_ | refine k_tYs ?_ | refine k_if ?_ | refine k_gc ?_ | refine k_3B ?_ | refine k_lenT ?_ | refine k_lenL ?_ | refine k_lenC ?_ | refine k_tupT ?_ | refine k_tupL ?_ | refine k_lstL ?_ | refine k_lstC ?_ | refine k_lstT ?_ | refine k_ltS ?_ | refine k_m1 ?_ | refine k_m0 ?_ | refine k_cnt ?_ | refine k_min2 ?_ | refine k_eqB ?_ | refine k_neB ?_ | refine k_slT ?_ | refine k_slL' ?_ | refine k_slC ?_) | ((with_reducible apply k_v); rfl) | ((with_reducible refine k_bnd ?_ ?_); (first | omega | (simp; omega) | skip)) | ((with_reducible refine And.intro ?_ ?_); (first | rfl | exact Nat.le_of_ble_eq_true rfl | omega | (simp; done))) | ((with_reducible apply k_exe); rfl) | ((with_reducible first | apply k_condT | apply k_aug | apply k_lenO | apply k_tupO | apply k_isi | apply k_is | apply k_isn | apply k_ixT | apply k_ixL); rfl) | ((with_reducible apply k_condF); rfl) | ((with_reducible first | apply k_ixO | apply k_putI); rfl; rfl) | ((with_reducible first | apply k_lenS | apply k_mod | apply k_addS | apply k_mulI | apply k_addT | apply k_rep); (first | omega | (simp; omega) | (with_reducible assumption) | decide))))
  refine k_lcG ?_
  (repeat (first | (with_reducible first | refine k_seq ?_ | refine k_set ?_ | refine k_ret ?_ | refine k_c ?_ | refine k_call ?_ | refine k_aC ?_ | refine k_aN ?_ | refine k_2 ?_ | refine k_1 ?_ | refine k_tOf ?_ | refine k_sIf ?_ | refine k_B ?_ | refine k_tup ?_ | refine k_lst ?_ | refine k_new ?_ | refine k_addI ?_ | refine k_subI ?_ | refine k_eqI ?_ | refine k_neI ?_ | refine k_ltI ?_ | refine k_leI ?_ | refine k_gtI ?_ | refine k_geI ?_ | refine k_eqS ?_ | refine k_neS ?_ | refine k_for ?_ | refine k_forR ?_ | refine k_forG ?_ | refine k_pass ?_ | refine k_ex ?_ | refine k_retN ?_ | refine k_brk ?_ | refine k_cont ?_ | refine k_asg ?_ | refine k_setI ?_ | refine k_sl2 ?_ | refine k_slL ?_ | refine k_slH ?_ | refine k_app ?_ | refine k_ext ?_ | refine k_bk ?_ | refine k_no ?_ | refine k_tNo ?_ | refine k_tYs ?_ | refine k_if ?_ | refine k_gc ?_ | refine k_3B ?_ | refine k_lenT ?_ | refine k_lenL ?_ | refine k_lenC ?_ | refine k_tupT ?_ | refine k_tupL ?_ | refine k_lstL ?_ | refine k_lstC ?_ | refine k_lstT ?_ | refine k_ltS ?_ | refine k_m1 ?_ | refine k_m0 ?_ | refine k_cnt ?_ | refine k_min2 ?_ | refine k_eqB ?_ | refine k_neB ?_ | refine k_slT ?_ | refine k_slL' ?_ | refine k_slC ?_) | ((with_reducible apply k_v); rfl) | ((with_reducible refine k_bnd ?_ ?_); (first | omega | (simp; omega) | skip)) | ((with_reducible refine And.intro ?_ ?_); (first | rfl | exact Nat.le_of_ble_eq_true rfl | omega | (simp; done))) | ((with_reducible apply k_exe); rfl) | ((with_reducible first | apply k_condT | apply k_aug | apply k_lenO | apply k_tupO | apply k_isi | apply k_is | apply k_isn | apply k_ixT | apply k_ixL); rfl) | ((with_reducible apply k_condF); rfl) | ((with_reducible first | apply k_ixO | apply k_putI); rfl; rfl) | ((with_reducible first | apply k_lenS | apply k_mod | apply k_addS | apply k_mulI | apply k_addT | apply k_rep); (first | omega | (simp; omega) | (with_reducible assumption) | decide))))
  refine ⟨0, 3, rfl, ?_⟩
  refine OkE_lc (fun i acc S => ∃ ps : List (Int × Int), ps.length = i ∧ S = ps.map potL ∧ acc = (List.range i).map D.obj ∧ ∀ p ∈ ps, Pot p.1 p.2) (k := 0) ⟨[], rfl, rfl, rfl, fun p hp => by cases hp⟩ (by rw [rng_len]; decide) ?_ ?_
  · rintro i d acc _ hd ⟨ps, hl, rfl, rfl, hps⟩
    obtain ⟨hi, rfl⟩ := rng_at hd
    refine ⟨True.intro, _, rfl, ?_⟩
    (repeat (first | (with_reducible first | refine k_seq ?_ | refine k_set ?_ | refine k_ret ?_ | refine k_c ?_ | refine k_call ?_ | refine k_aC ?_ | refine k_aN ?_ | refine k_2 ?_ | refine k_1 ?_ | refine k_tOf ?_ | refine k_sIf ?_ | refine k_B ?_ | refine k_tup ?_ | refine k_lst ?_ | refine k_new ?_ | refine k_addI ?_ | refine k_subI ?_ | refine k_eqI ?_ | refine k_neI ?_ | refine k_ltI ?_ | refine k_leI ?_ | refine k_gtI ?_ | refine k_geI ?_ | refine k_eqS ?_ | refine k_neS ?_ | refine k_for ?_ | refine k_forR ?_ | refine k_forG ?_ | refine k_pass ?_ | refine k_ex ?_ | refine k_retN ?_ | refine k_brk ?_ | refine k_cont ?_ | refine k_asg ?_ | refine k_setI ?_ | refine k_sl2 ?_ | refine k_slL ?_ | refine k_slH ?_ | refine k_app ?_ | refine k_ext ?_ | refine k_bk ?_ | refine k_no ?_ | refine k_tNo ?_ | refine k_tYs ?_ | refine k_if ?_ | refine k_gc ?_ | refine k_3B ?_ | refine k_lenT ?_ | refine k_lenL ?_ | refine k_lenC ?_ | refine k_tupT ?_ | refine k_tupL ?_ | refine k_lstL ?_ | refine k_lstC ?_ | refine k_lstT ?_ | refine k_ltS ?_ | refine k_m1 ?_ | refine k_m0 ?_ | refine k_cnt ?_ | refine k_min2 ?_ | refine k_eqB ?_ | refine k_neB ?_ | refine k_slT ?_ | refine k_slL' ?_ | refine k_slC ?_) | ((with_reducible apply k_v); rfl) | ((with_reducible refine k_bnd ?_ ?_); (first | omega | (simp; omega) | skip)) | ((with_reducible refine And.intro ?_ ?_); (first | rfl | exact Nat.le_of_ble_eq_true rfl | omega | (simp; done))) | ((with_reducible apply k_exe); rfl) | ((with_reducible first | apply k_condT | apply k_aug | apply k_lenO | apply k_tupO | apply k_isi | apply k_is | apply k_isn | apply k_ixT | apply k_ixL); rfl) | ((with_reducible apply k_condF); rfl) | ((with_reducible first | apply k_ixO | apply k_putI); rfl; rfl) | ((with_reducible first | apply k_lenS | apply k_mod | apply k_addS | apply k_mulI | apply k_addT | apply k_rep); (first | omega | (simp; omega) | (with_reducible assumption) | decide))))
    refine ⟨fun _ => ?_, fun z => by cases z⟩
    have hl0 : (0 : Int) < ((cs.map D.int).length : Int) := by simp; exact hcs
    (repeat (first | (with_reducible first | refine k_seq ?_ | refine k_set ?_ | refine k_ret ?_ | refine k_c ?_ | refine k_call ?_ | refine k_aC ?_ | refine k_aN ?_ | refine k_2 ?_ | refine k_1 ?_ | refine k_tOf ?_ | refine k_sIf ?_ | refine k_B ?_ | refine k_tup ?_ | refine k_lst ?_ | refine k_new ?_ | refine k_addI ?_ | refine k_subI ?_ | refine k_eqI ?_ | refine k_neI ?_ | refine k_ltI ?_ | refine k_leI ?_ | refine k_gtI ?_ | refine k_geI ?_ | refine k_eqS ?_ | refine k_neS ?_ | refine k_for ?_ | refine k_forR ?_ | refine k_forG ?_ | refine k_pass ?_ | refine k_ex ?_ | refine k_retN ?_ | refine k_brk ?_ | refine k_cont ?_ | refine k_asg ?_ | refine k_setI ?_ | refine k_sl2 ?_ | refine k_slL ?_ | refine k_slH ?_ | refine k_app ?_ | refine k_ext ?_ | refine k_bk ?_ | refine k_no ?_ | refine k_tNo ?_ | refine k_tYs ?_ | refine k_if ?_ | refine k_gc ?_ | refine k_3B ?_ | refine k_lenT ?_ | refine k_lenL ?_ | refine k_lenC ?_ | refine k_tupT ?_ | refine k_tupL ?_ | refine k_lstL ?_ | refine k_lstC ?_ | refine k_lstT ?_ | refine k_ltS ?_ | refine k_m1 ?_ | refine k_m0 ?_ | refine k_cnt ?_ | refine k_min2 ?_ | refine k_eqB ?_ | refine k_neB ?_ | refine k_slT ?_ | refine k_slL' ?_ | refine k_slC ?_) | ((with_reducible apply k_v); rfl) | ((with_reducible refine k_bnd ?_ ?_); (first | omega | (simp; omega) | skip)) | ((with_reducible refine And.intro ?_ ?_); (first | rfl | exact Nat.le_of_ble_eq_true rfl | omega | (simp; done))) | ((with_reducible apply k_exe); rfl) | ((with_reducible first | apply k_condT | apply k_aug | apply k_lenO | apply k_tupO | apply k_isi | apply k_is | apply k_isn | apply k_ixT | apply k_ixL); rfl) | ((with_reducible apply k_condF); rfl) | ((with_reducible first | apply k_ixO | apply k_putI); rfl; rfl) | ((with_reducible first | apply k_lenS | apply k_mod | apply k_addS | apply k_mulI | apply k_addT | apply k_rep); (first | omega | (simp; omega) | (with_reducible assumption) | decide))))
    have hm1 := Int.emod_nonneg (k + (0 + (i : Int))) (show ((cs.map D.int).length : Int) ≠ 0 by simp; intro z; rw [z] at hcs; cases hcs)
    have hm2 := Int.emod_lt_of_pos (k + (0 + (i : Int))) (show 0 < ((cs.map D.int).length : Int) by simpa using hcs)
    obtain ⟨c, hc, hcm⟩ := at_lt (xs := cs.map D.int) hm1 hm2
    refine k_ixL hc ?_
    obtain ⟨cell, _, rfl⟩ := List.mem_map.mp hcm
    (repeat (first | (with_reducible first | refine k_seq ?_ | refine k_set ?_ | refine k_ret ?_ | refine k_c ?_ | refine k_call ?_ | refine k_aC ?_ | refine k_aN ?_ | refine k_2 ?_ | refine k_1 ?_ | refine k_tOf ?_ | refine k_sIf ?_ | refine k_B ?_ | refine k_tup ?_ | refine k_lst ?_ | refine k_new ?_ | refine k_addI ?_ | refine k_subI ?_ | refine k_eqI ?_ | refine k_neI ?_ | refine k_ltI ?_ | refine k_leI ?_ | refine k_gtI ?_ | refine k_geI ?_ | refine k_eqS ?_ | refine k_neS ?_ | refine k_for ?_ | refine k_forR ?_ | refine k_forG ?_ | refine k_pass ?_ | refine k_ex ?_ | refine k_retN ?_ | refine k_brk ?_ | refine k_cont ?_ | refine k_asg ?_ | refine k_setI ?_ | refine k_sl2 ?_ | refine k_slL ?_ | refine k_slH ?_ | refine k_app ?_ | refine k_ext ?_ | refine k_bk ?_ | refine k_no ?_ | refine k_tNo ?_ | refine k_tYs ?_ | refine k_if ?_ | refine k_gc ?_ | refine k_3B ?_ | refine k_lenT ?_ | refine k_lenL ?_ | refine k_lenC ?_ | refine k_tupT ?_ | refine k_tupL ?_ | refine k_lstL ?_ | refine k_lstC ?_ | refine k_lstT ?_ | refine k_ltS ?_ | refine k_m1 ?_ | refine k_m0 ?_ | refine k_cnt ?_ | refine k_min2 ?_ | refine k_eqB ?_ | refine k_neB ?_ | refine k_slT ?_ | refine k_slL' ?_ | refine k_slC ?_) | ((with_reducible apply k_v); rfl) | ((with_reducible refine k_bnd ?_ ?_); (first | omega | (simp; omega) | skip)) | ((with_reducible refine And.intro ?_ ?_); (first | rfl | exact Nat.le_of_ble_eq_true rfl | omega | (simp; done))) | ((with_reducible apply k_exe); rfl) | ((with_reducible first | apply k_condT | apply k_aug | apply k_lenO | apply k_tupO | apply k_isi | apply k_is | apply k_isn | apply k_ixT | apply k_ixL); rfl) | ((with_reducible apply k_condF); rfl) | ((with_reducible first | apply k_ixO | apply k_putI); rfl; rfl) | ((with_reducible first | apply k_lenS | apply k_mod | apply k_addS | apply k_mulI | apply k_addT | apply k_rep); (first | omega | (simp; omega) | (with_reducible assumption) | decide))))
    refine pot_s (by omega) (by omega) fun a b p => ?_
    refine ⟨ps ++ [(a, b)], by simp [hl], by simp [potL], by simp [List.range_succ, hl], fun q hq => ?_⟩
    rcases List.mem_append.mp hq with hq | hq
    · exact hps q hq
    · rw [List.mem_singleton.mp hq]; exact p
  · rintro acc _ ⟨ps, hl, rfl, rfl, hps⟩
    refine ⟨True.intro, ?_⟩
    obtain ⟨⟨a0, b0⟩, ⟨a1, b1⟩, ⟨a2, b2⟩, rfl⟩ : ∃ p0 p1 p2, ps = [p0, p1, p2] := by
      match ps, hl with
      | [p0, p1, p2], _ => exact ⟨_, _, _, rfl⟩
    have q0 : Pot a0 b0 := hps (a0, b0) (by simp)
    have q1 : Pot a1 b1 := hps (a1, b1) (by simp)
    have q2 : Pot a2 b2 := hps (a2, b2) (by simp)
    have e3 : (List.range (0 + (rng 0 3).length)).map D.obj = [.obj 0, .obj 1, .obj 2] := rfl
    rw [e3]
    (repeat (first | (with_reducible first | refine k_seq ?_ | refine k_set ?_ | refine k_ret ?_ | refine k_c ?_ | refine k_call ?_ | refine k_aC ?_ | refine k_aN ?_ | refine k_2 ?_ | refine k_1 ?_ | refine k_tOf ?_ | refine k_sIf ?_ | refine k_B ?_ | refine k_tup ?_ | refine k_lst ?_ | refine k_new ?_ | refine k_addI ?_ | refine k_subI ?_ | refine k_eqI ?_ | refine k_neI ?_ | refine k_ltI ?_ | refine k_leI ?_ | refine k_gtI ?_ | refine k_geI ?_ | refine k_eqS ?_ | refine k_neS ?_ | refine k_for ?_ | refine k_forR ?_ | refine k_forG ?_ | refine k_pass ?_ | refine k_ex ?_ | refine k_retN ?_ | refine k_brk ?_ | refine k_cont ?_ | refine k_asg ?_ | refine k_setI ?_ | refine k_sl2 ?_ | refine k_slL ?_ | refine k_slH ?_ | refine k_app ?_ | refine k_ext ?_ | refine k_bk ?_ | refine k_no ?_ | refine k_tNo ?_ | refine k_tYs ?_ | refine k_if ?_ | refine k_gc ?_ | refine k_3B ?_ | refine k_lenT ?_ | refine k_lenL ?_ | refine k_lenC ?_ | refine k_tupT ?_ | refine k_tupL ?_ | refine k_lstL ?_ | refine k_lstC ?_ | refine k_lstT ?_ | refine k_ltS ?_ | refine k_m1 ?_ | refine k_m0 ?_ | refine k_cnt ?_ | refine k_min2 ?_ | refine k_eqB ?_ | refine k_neB ?_ | refine k_slT ?_ | refine k_slL' ?_ | refine k_slC ?_) | ((with_reducible apply k_v); rfl) | ((with_reducible refine k_bnd ?_ ?_); (first | omega | (simp; omega) | skip)) | ((with_reducible refine And.intro ?_ ?_); (first | rfl | exact Nat.le_of_ble_eq_true rfl | omega | (simp; done))) | ((with_reducible apply k_exe); rfl) | ((with_reducible first | apply k_condT | apply k_aug | apply k_lenO | apply k_tupO | apply k_isi | apply k_is | apply k_isn | apply k_ixT | apply k_ixL); rfl) | ((with_reducible apply k_condF); rfl) | ((with_reducible first | apply k_ixO | apply k_putI); rfl; rfl) | ((with_reducible first | apply k_lenS | apply k_mod | apply k_addS | apply k_mulI | apply k_addT | apply k_rep); (first | omega | (simp; omega) | (with_reducible assumption) | decide))))
    refine good_tree_s rfl q0 fun t0 a0 b0 g0 q0 => ?_
    (repeat (first | (with_reducible first | refine k_seq ?_ | refine k_set ?_ | refine k_ret ?_ | refine k_c ?_ | refine k_call ?_ | refine k_aC ?_ | refine k_aN ?_ | refine k_2 ?_ | refine k_1 ?_ | refine k_tOf ?_ | refine k_sIf ?_ | refine k_B ?_ | refine k_tup ?_ | refine k_lst ?_ | refine k_new ?_ | refine k_addI ?_ | refine k_subI ?_ | refine k_eqI ?_ | refine k_neI ?_ | refine k_ltI ?_ | refine k_leI ?_ | refine k_gtI ?_ | refine k_geI ?_ | refine k_eqS ?_ | refine k_neS ?_ | refine k_for ?_ | refine k_forR ?_ | refine k_forG ?_ | refine k_pass ?_ | refine k_ex ?_ | refine k_retN ?_ | refine k_brk ?_ | refine k_cont ?_ | refine k_asg ?_ | refine k_setI ?_ | refine k_sl2 ?_ | refine k_slL ?_ | refine k_slH ?_ | refine k_app ?_ | refine k_ext ?_ | refine k_bk ?_ | refine k_no ?_ | refine k_tNo ?_ | refine k_tYs ?_ | refine k_if ?_ | refine k_gc ?_ | refine k_3B ?_ | refine k_lenT ?_ | refine k_lenL ?_ | refine k_lenC ?_ | refine k_tupT ?_ | refine k_tupL ?_ | refine k_lstL ?_ | refine k_lstC ?_ | refine k_lstT ?_ | refine k_ltS ?_ | refine k_m1 ?_ | refine k_m0 ?_ | refine k_cnt ?_ | refine k_min2 ?_ | refine k_eqB ?_ | refine k_neB ?_ | refine k_slT ?_ | refine k_slL' ?_ | refine k_slC ?_) | ((with_reducible apply k_v); rfl) | ((with_reducible refine k_bnd ?_ ?_); (first | omega | (simp; omega) | skip)) | ((with_reducible refine And.intro ?_ ?_); (first | rfl | exact Nat.le_of_ble_eq_true rfl | omega | (simp; done))) | ((with_reducible apply k_exe); rfl) | ((with_reducible first | apply k_condT | apply k_aug | apply k_lenO | apply k_tupO | apply k_isi | apply k_is | apply k_isn | apply k_ixT | apply k_ixL); rfl) | ((with_reducible apply k_condF); rfl) | ((with_reducible first | apply k_ixO | apply k_putI); rfl; rfl) | ((with_reducible first | apply k_lenS | apply k_mod | apply k_addS | apply k_mulI | apply k_addT | apply k_rep); (first | omega | (simp; omega) | (with_reducible assumption) | decide))))
    refine ⟨1, 2, rfl, ?_⟩
    refine OkS_for (fun i e S => ∃ x4 x5 a1 b1 a2 b2 ts, e = [some (.lst (cs.map D.int)), some (.int k), some (.lst [.obj 0, .obj 1, .obj 2]), some (.obj 3), x4, x5] ∧ S = [.lst [.int a0, .int b0], .lst [.int a1, .int b1], .lst [.int a2, .int b2], .lst ts] ∧ Pot a1 b1 ∧ Pot a2 b2 ∧ ts.length = i + 1 ∧ ∀ t ∈ ts, Gt t) (k := 0) ⟨none, none, a1, b1, a2, b2, [t0], rfl, rfl, q1, q2, rfl, fun t ht => by rw [List.mem_singleton.mp ht]; exact g0⟩ ?_ ?_
    · rintro i d _ _ hd ⟨x4, x5, a1, b1, a2, b2, ts, rfl, rfl, q1, q2, hts, hg⟩
      obtain ⟨hi, rfl⟩ := rng_at hd
      refine ⟨True.intro, _, rfl, ?_⟩
      obtain rfl | rfl : i = 0 ∨ i = 1 := by omega
      · obtain ⟨t0, rfl⟩ : ∃ t0, ts = [t0] := by
          match ts, hts with
          | [t0], _ => exact ⟨_, rfl⟩
        have e1 : (1 : Int) + ((0 : Nat) : Int) = 1 := rfl
        rw [e1]
        have g0 : Gt t0 := hg t0 (by simp)
        (repeat (first | (with_reducible first | refine k_seq ?_ | refine k_set ?_ | refine k_ret ?_ | refine k_c ?_ | refine k_call ?_ | refine k_aC ?_ | refine k_aN ?_ | refine k_2 ?_ | refine k_1 ?_ | refine k_tOf ?_ | refine k_sIf ?_ | refine k_B ?_ | refine k_tup ?_ | refine k_lst ?_ | refine k_new ?_ | refine k_addI ?_ | refine k_subI ?_ | refine k_eqI ?_ | refine k_neI ?_ | refine k_ltI ?_ | refine k_leI ?_ | refine k_gtI ?_ | refine k_geI ?_ | refine k_eqS ?_ | refine k_neS ?_ | refine k_for ?_ | refine k_forR ?_ | refine k_forG ?_ | refine k_pass ?_ | refine k_ex ?_ | refine k_retN ?_ | refine k_brk ?_ | refine k_cont ?_ | refine k_asg ?_ | refine k_setI ?_ | refine k_sl2 ?_ | refine k_slL ?_ | refine k_slH ?_ | refine k_app ?_ | refine k_ext ?_ | refine k_bk ?_ | refine k_no ?_ | refine k_tNo ?_ | refine k_tYs ?_ | refine k_if ?_ | refine k_gc ?_ | refine k_3B ?_ | refine k_lenT ?_ | refine k_lenL ?_ | refine k_lenC ?_ | refine k_tupT ?_ | refine k_tupL ?_ | refine k_lstL ?_ | refine k_lstC ?_ | refine k_lstT ?_ | refine k_ltS ?_ | refine k_m1 ?_ | refine k_m0 ?_ | refine k_cnt ?_ | refine k_min2 ?_ | refine k_eqB ?_ | refine k_neB ?_ | refine k_slT ?_ | refine k_slL' ?_ | refine k_slC ?_) | ((with_reducible apply k_v); rfl) | ((with_reducible refine k_bnd ?_ ?_); (first | omega | (simp; omega) | skip)) | ((with_reducible refine And.intro ?_ ?_); (first | rfl | exact Nat.le_of_ble_eq_true rfl | omega | (simp; done))) | ((with_reducible apply k_exe); rfl) | ((with_reducible first | apply k_condT | apply k_aug | apply k_lenO | apply k_tupO | apply k_isi | apply k_is | apply k_isn | apply k_ixT | apply k_ixL); rfl) | ((with_reducible apply k_condF); rfl) | ((with_reducible first | apply k_ixO | apply k_putI); rfl; rfl) | ((with_reducible first | apply k_lenS | apply k_mod | apply k_addS | apply k_mulI | apply k_addT | apply k_rep); (first | omega | (simp; omega) | (with_reducible assumption) | decide))))
        refine good_tree_s rfl q1 fun t a1 b1 g q1 => ?_
        refine k_seqI (fun e S => ∃ t a1 b1, e = [some (.lst (cs.map D.int)), some (.int k), some (.lst [.obj 0, .obj 1, .obj 2]), some (.obj 3), some (.int 1), some t] ∧ S = [.lst [.int a0, .int b0], .lst [.int a1, .int b1], .lst [.int a2, .int b2], .lst [t0]] ∧ Pot a1 b1 ∧ tr 59 t) ?_ ?_
        · (repeat (first | (with_reducible first | refine k_seq ?_ | refine k_set ?_ | refine k_ret ?_ | refine k_c ?_ | refine k_call ?_ | refine k_aC ?_ | refine k_aN ?_ | refine k_2 ?_ | refine k_1 ?_ | refine k_tOf ?_ | refine k_sIf ?_ | refine k_B ?_ | refine k_tup ?_ | refine k_lst ?_ | refine k_new ?_ | refine k_addI ?_ | refine k_subI ?_ | refine k_eqI ?_ | refine k_neI ?_ | refine k_ltI ?_ | refine k_leI ?_ | refine k_gtI ?_ | refine k_geI ?_ | refine k_eqS ?_ | refine k_neS ?_ | refine k_for ?_ | refine k_forR ?_ | refine k_forG ?_ | refine k_pass ?_ | refine k_ex ?_ | refine k_retN ?_ | refine k_brk ?_ | refine k_cont ?_ | refine k_asg ?_ | refine k_setI ?_ | refine k_sl2 ?_ | refine k_slL ?_ | refine k_slH ?_ | refine k_app ?_ | refine k_ext ?_ | refine k_bk ?_ | refine k_no ?_ | refine k_tNo ?_ | refine k_tYs ?_ | refine k_if ?_ | refine k_gc ?_ | refine k_3B ?_ | refine k_lenT ?_ | refine k_lenL ?_ | refine k_lenC ?_ | refine k_tupT ?_ | refine k_tupL ?_ | refine k_lstL ?_ | refine k_lstC ?_ | refine k_lstT ?_ | refine k_ltS ?_ | refine k_m1 ?_ | refine k_m0 ?_ | refine k_cnt ?_ | refine k_min2 ?_ | refine k_eqB ?_ | refine k_neB ?_ | refine k_slT ?_ | refine k_slL' ?_ | refine k_slC ?_) | ((with_reducible apply k_v); rfl) | ((with_reducible refine k_bnd ?_ ?_); (first | omega | (simp; omega) | skip)) | ((with_reducible refine And.intro ?_ ?_); (first | rfl | exact Nat.le_of_ble_eq_true rfl | omega | (simp; done))) | ((with_reducible apply k_exe); rfl) | ((with_reducible first | apply k_condT | apply k_aug | apply k_lenO | apply k_tupO | apply k_isi | apply k_is | apply k_isn | apply k_ixT | apply k_ixL); rfl) | ((with_reducible apply k_condF); rfl) | ((with_reducible first | apply k_ixO | apply k_putI); rfl; rfl) | ((with_reducible first | apply k_lenS | apply k_mod | apply k_addS | apply k_mulI | apply k_addT | apply k_rep); (first | omega | (simp; omega) | (with_reducible assumption) | decide))))
          refine take_s rfl q1 (by decide) (by decide) fun d2 a2 b2 l2 u2 p2 => ?_
          (repeat (first | (with_reducible first | refine k_seq ?_ | refine k_set ?_ | refine k_ret ?_ | refine k_c ?_ | refine k_call ?_ | refine k_aC ?_ | refine k_aN ?_ | refine k_2 ?_ | refine k_1 ?_ | refine k_tOf ?_ | refine k_sIf ?_ | refine k_B ?_ | refine k_tup ?_ | refine k_lst ?_ | refine k_new ?_ | refine k_addI ?_ | refine k_subI ?_ | refine k_eqI ?_ | refine k_neI ?_ | refine k_ltI ?_ | refine k_leI ?_ | refine k_gtI ?_ | refine k_geI ?_ | refine k_eqS ?_ | refine k_neS ?_ | refine k_for ?_ | refine k_forR ?_ | refine k_forG ?_ | refine k_pass ?_ | refine k_ex ?_ | refine k_retN ?_ | refine k_brk ?_ | refine k_cont ?_ | refine k_asg ?_ | refine k_setI ?_ | refine k_sl2 ?_ | refine k_slL ?_ | refine k_slH ?_ | refine k_app ?_ | refine k_ext ?_ | refine k_bk ?_ | refine k_no ?_ | refine k_tNo ?_ | refine k_tYs ?_ | refine k_if ?_ | refine k_gc ?_ | refine k_3B ?_ | refine k_lenT ?_ | refine k_lenL ?_ | refine k_lenC ?_ | refine k_tupT ?_ | refine k_tupL ?_ | refine k_lstL ?_ | refine k_lstC ?_ | refine k_lstT ?_ | refine k_ltS ?_ | refine k_m1 ?_ | refine k_m0 ?_ | refine k_cnt ?_ | refine k_min2 ?_ | refine k_eqB ?_ | refine k_neB ?_ | refine k_slT ?_ | refine k_slL' ?_ | refine k_slC ?_) | ((with_reducible apply k_v); rfl) | ((with_reducible refine k_bnd ?_ ?_); (first | omega | (simp; omega) | skip)) | ((with_reducible refine And.intro ?_ ?_); (first | rfl | exact Nat.le_of_ble_eq_true rfl | omega | (simp; done))) | ((with_reducible apply k_exe); rfl) | ((with_reducible first | apply k_condT | apply k_aug | apply k_lenO | apply k_tupO | apply k_isi | apply k_is | apply k_isn | apply k_ixT | apply k_ixL); rfl) | ((with_reducible apply k_condF); rfl) | ((with_reducible first | apply k_ixO | apply k_putI); rfl; rfl) | ((with_reducible first | apply k_lenS | apply k_mod | apply k_addS | apply k_mulI | apply k_addT | apply k_rep); (first | omega | (simp; omega) | (with_reducible assumption) | decide))))
          refine ⟨fun _ => ?_, fun _ => ?_⟩
          · (repeat (first | (with_reducible first | refine k_seq ?_ | refine k_set ?_ | refine k_ret ?_ | refine k_c ?_ | refine k_call ?_ | refine k_aC ?_ | refine k_aN ?_ | refine k_2 ?_ | refine k_1 ?_ | refine k_tOf ?_ | refine k_sIf ?_ | refine k_B ?_ | refine k_tup ?_ | refine k_lst ?_ | refine k_new ?_ | refine k_addI ?_ | refine k_subI ?_ | refine k_eqI ?_ | refine k_neI ?_ | refine k_ltI ?_ | refine k_leI ?_ | refine k_gtI ?_ | refine k_geI ?_ | refine k_eqS ?_ | refine k_neS ?_ | refine k_for ?_ | refine k_forR ?_ | refine k_forG ?_ | refine k_pass ?_ | refine k_ex ?_ | refine k_retN ?_ | refine k_brk ?_ | refine k_cont ?_ | refine k_asg ?_ | refine k_setI ?_ | refine k_sl2 ?_ | refine k_slL ?_ | refine k_slH ?_ | refine k_app ?_ | refine k_ext ?_ | refine k_bk ?_ | refine k_no ?_ | refine k_tNo ?_ | refine k_tYs ?_ | refine k_if ?_ | refine k_gc ?_ | refine k_3B ?_ | refine k_lenT ?_ | refine k_lenL ?_ | refine k_lenC ?_ | refine k_tupT ?_ | refine k_tupL ?_ | refine k_lstL ?_ | refine k_lstC ?_ | refine k_lstT ?_ | refine k_ltS ?_ | refine k_m1 ?_ | refine k_m0 ?_ | refine k_cnt ?_ | refine k_min2 ?_ | refine k_eqB ?_ | refine k_neB ?_ | refine k_slT ?_ | refine k_slL' ?_ | refine k_slC ?_) | ((with_reducible apply k_v); rfl) | ((with_reducible refine k_bnd ?_ ?_); (first | omega | (simp; omega) | skip)) | ((with_reducible refine And.intro ?_ ?_); (first | rfl | exact Nat.le_of_ble_eq_true rfl | omega | (simp; done))) | ((with_reducible apply k_exe); rfl) | ((with_reducible first | apply k_condT | apply k_aug | apply k_lenO | apply k_tupO | apply k_isi | apply k_is | apply k_isn | apply k_ixT | apply k_ixL); rfl) | ((with_reducible apply k_condF); rfl) | ((with_reducible first | apply k_ixO | apply k_putI); rfl; rfl) | ((with_reducible first | apply k_lenS | apply k_mod | apply k_addS | apply k_mulI | apply k_addT | apply k_rep); (first | omega | (simp; omega) | (with_reducible assumption) | decide))))
            refine like_s 60 12 t0 (by decide) g0.s rfl p2 (fun t a b ht p => ?_) (by decide)
            exact ⟨_, _, _, rfl, rfl, p, tr_mono ht (by decide)⟩
          · (repeat (first | (with_reducible first | refine k_seq ?_ | refine k_set ?_ | refine k_ret ?_ | refine k_c ?_ | refine k_call ?_ | refine k_aC ?_ | refine k_aN ?_ | refine k_2 ?_ | refine k_1 ?_ | refine k_tOf ?_ | refine k_sIf ?_ | refine k_B ?_ | refine k_tup ?_ | refine k_lst ?_ | refine k_new ?_ | refine k_addI ?_ | refine k_subI ?_ | refine k_eqI ?_ | refine k_neI ?_ | refine k_ltI ?_ | refine k_leI ?_ | refine k_gtI ?_ | refine k_geI ?_ | refine k_eqS ?_ | refine k_neS ?_ | refine k_for ?_ | refine k_forR ?_ | refine k_forG ?_ | refine k_pass ?_ | refine k_ex ?_ | refine k_retN ?_ | refine k_brk ?_ | refine k_cont ?_ | refine k_asg ?_ | refine k_setI ?_ | refine k_sl2 ?_ | refine k_slL ?_ | refine k_slH ?_ | refine k_app ?_ | refine k_ext ?_ | refine k_bk ?_ | refine k_no ?_ | refine k_tNo ?_ | refine k_tYs ?_ | refine k_if ?_ | refine k_gc ?_ | refine k_3B ?_ | refine k_lenT ?_ | refine k_lenL ?_ | refine k_lenC ?_ | refine k_tupT ?_ | refine k_tupL ?_ | refine k_lstL ?_ | refine k_lstC ?_ | refine k_lstT ?_ | refine k_ltS ?_ | refine k_m1 ?_ | refine k_m0 ?_ | refine k_cnt ?_ | refine k_min2 ?_ | refine k_eqB ?_ | refine k_neB ?_ | refine k_slT ?_ | refine k_slL' ?_ | refine k_slC ?_) | ((with_reducible apply k_v); rfl) | ((with_reducible refine k_bnd ?_ ?_); (first | omega | (simp; omega) | skip)) | ((with_reducible refine And.intro ?_ ?_); (first | rfl | exact Nat.le_of_ble_eq_true rfl | omega | (simp; done))) | ((with_reducible apply k_exe); rfl) | ((with_reducible first | apply k_condT | apply k_aug | apply k_lenO | apply k_tupO | apply k_isi | apply k_is | apply k_isn | apply k_ixT | apply k_ixL); rfl) | ((with_reducible apply k_condF); rfl) | ((with_reducible first | apply k_ixO | apply k_putI); rfl; rfl) | ((with_reducible first | apply k_lenS | apply k_mod | apply k_addS | apply k_mulI | apply k_addT | apply k_rep); (first | omega | (simp; omega) | (with_reducible assumption) | decide))))
            exact ⟨_, _, _, rfl, rfl, p2, tr_mono g.tr (by decide)⟩
        · rintro _ _ ⟨t, a1, b1, rfl, rfl, q1, ht⟩
          (repeat (first | (with_reducible first | refine k_seq ?_ | refine k_set ?_ | refine k_ret ?_ | refine k_c ?_ | refine k_call ?_ | refine k_aC ?_ | refine k_aN ?_ | refine k_2 ?_ | refine k_1 ?_ | refine k_tOf ?_ | refine k_sIf ?_ | refine k_B ?_ | refine k_tup ?_ | refine k_lst ?_ | refine k_new ?_ | refine k_addI ?_ | refine k_subI ?_ | refine k_eqI ?_ | refine k_neI ?_ | refine k_ltI ?_ | refine k_leI ?_ | refine k_gtI ?_ | refine k_geI ?_ | refine k_eqS ?_ | refine k_neS ?_ | refine k_for ?_ | refine k_forR ?_ | refine k_forG ?_ | refine k_pass ?_ | refine k_ex ?_ | refine k_retN ?_ | refine k_brk ?_ | refine k_cont ?_ | refine k_asg ?_ | refine k_setI ?_ | refine k_sl2 ?_ | refine k_slL ?_ | refine k_slH ?_ | refine k_app ?_ | refine k_ext ?_ | refine k_bk ?_ | refine k_no ?_ | refine k_tNo ?_ | refine k_tYs ?_ | refine k_if ?_ | refine k_gc ?_ | refine k_3B ?_ | refine k_lenT ?_ | refine k_lenL ?_ | refine k_lenC ?_ | refine k_tupT ?_ | refine k_tupL ?_ | refine k_lstL ?_ | refine k_lstC ?_ | refine k_lstT ?_ | refine k_ltS ?_ | refine k_m1 ?_ | refine k_m0 ?_ | refine k_cnt ?_ | refine k_min2 ?_ | refine k_eqB ?_ | refine k_neB ?_ | refine k_slT ?_ | refine k_slL' ?_ | refine k_slC ?_) | ((with_reducible apply k_v); rfl) | ((with_reducible refine k_bnd ?_ ?_); (first | omega | (simp; omega) | skip)) | ((with_reducible refine And.intro ?_ ?_); (first | rfl | exact Nat.le_of_ble_eq_true rfl | omega | (simp; done))) | ((with_reducible apply k_exe); rfl) | ((with_reducible first | apply k_condT | apply k_aug | apply k_lenO | apply k_tupO | apply k_isi | apply k_is | apply k_isn | apply k_ixT | apply k_ixL); rfl) | ((with_reducible apply k_condF); rfl) | ((with_reducible first | apply k_ixO | apply k_putI); rfl; rfl) | ((with_reducible first | apply k_lenS | apply k_mod | apply k_addS | apply k_mulI | apply k_addT | apply k_rep); (first | omega | (simp; omega) | (with_reducible assumption) | decide))))
          refine law_is_tree_s (tr_wf ht) ?_
          (repeat (first | (with_reducible first | refine k_seq ?_ | refine k_set ?_ | refine k_ret ?_ | refine k_c ?_ | refine k_call ?_ | refine k_aC ?_ | refine k_aN ?_ | refine k_2 ?_ | refine k_1 ?_ | refine k_tOf ?_ | refine k_sIf ?_ | refine k_B ?_ | refine k_tup ?_ | refine k_lst ?_ | refine k_new ?_ | refine k_addI ?_ | refine k_subI ?_ | refine k_eqI ?_ | refine k_neI ?_ | refine k_ltI ?_ | refine k_leI ?_ | refine k_gtI ?_ | refine k_geI ?_ | refine k_eqS ?_ | refine k_neS ?_ | refine k_for ?_ | refine k_forR ?_ | refine k_forG ?_ | refine k_pass ?_ | refine k_ex ?_ | refine k_retN ?_ | refine k_brk ?_ | refine k_cont ?_ | refine k_asg ?_ | refine k_setI ?_ | refine k_sl2 ?_ | refine k_slL ?_ | refine k_slH ?_ | refine k_app ?_ | refine k_ext ?_ | refine k_bk ?_ | refine k_no ?_ | refine k_tNo ?_ | refine k_tYs ?_ | refine k_if ?_ | refine k_gc ?_ | refine k_3B ?_ | refine k_lenT ?_ | refine k_lenL ?_ | refine k_lenC ?_ | refine k_tupT ?_ | refine k_tupL ?_ | refine k_lstL ?_ | refine k_lstC ?_ | refine k_lstT ?_ | refine k_ltS ?_ | refine k_m1 ?_ | refine k_m0 ?_ | refine k_cnt ?_ | refine k_min2 ?_ | refine k_eqB ?_ | refine k_neB ?_ | refine k_slT ?_ | refine k_slL' ?_ | refine k_slC ?_) | ((with_reducible apply k_v); rfl) | ((with_reducible refine k_bnd ?_ ?_); (first | omega | (simp; omega) | skip)) | ((with_reducible refine And.intro ?_ ?_); (first | rfl | exact Nat.le_of_ble_eq_true rfl | omega | (simp; done))) | ((with_reducible apply k_exe); rfl) | ((with_reducible first | apply k_condT | apply k_aug | apply k_lenO | apply k_tupO | apply k_isi | apply k_is | apply k_isn | apply k_ixT | apply k_ixL); rfl) | ((with_reducible apply k_condF); rfl) | ((with_reducible first | apply k_ixO | apply k_putI); rfl; rfl) | ((with_reducible first | apply k_lenS | apply k_mod | apply k_addS | apply k_mulI | apply k_addT | apply k_rep); (first | omega | (simp; omega) | (with_reducible assumption) | decide))))
          cases hz : treeB t with
          | true =>
            refine ⟨(fun z => by cases z), fun _ => ?_⟩
            (repeat (first | (with_reducible first | refine k_seq ?_ | refine k_set ?_ | refine k_ret ?_ | refine k_c ?_ | refine k_call ?_ | refine k_aC ?_ | refine k_aN ?_ | refine k_2 ?_ | refine k_1 ?_ | refine k_tOf ?_ | refine k_sIf ?_ | refine k_B ?_ | refine k_tup ?_ | refine k_lst ?_ | refine k_new ?_ | refine k_addI ?_ | refine k_subI ?_ | refine k_eqI ?_ | refine k_neI ?_ | refine k_ltI ?_ | refine k_leI ?_ | refine k_gtI ?_ | refine k_geI ?_ | refine k_eqS ?_ | refine k_neS ?_ | refine k_for ?_ | refine k_forR ?_ | refine k_forG ?_ | refine k_pass ?_ | refine k_ex ?_ | refine k_retN ?_ | refine k_brk ?_ | refine k_cont ?_ | refine k_asg ?_ | refine k_setI ?_ | refine k_sl2 ?_ | refine k_slL ?_ | refine k_slH ?_ | refine k_app ?_ | refine k_ext ?_ | refine k_bk ?_ | refine k_no ?_ | refine k_tNo ?_ | refine k_tYs ?_ | refine k_if ?_ | refine k_gc ?_ | refine k_3B ?_ | refine k_lenT ?_ | refine k_lenL ?_ | refine k_lenC ?_ | refine k_tupT ?_ | refine k_tupL ?_ | refine k_lstL ?_ | refine k_lstC ?_ | refine k_lstT ?_ | refine k_ltS ?_ | refine k_m1 ?_ | refine k_m0 ?_ | refine k_cnt ?_ | refine k_min2 ?_ | refine k_eqB ?_ | refine k_neB ?_ | refine k_slT ?_ | refine k_slL' ?_ | refine k_slC ?_) | ((with_reducible apply k_v); rfl) | ((with_reducible refine k_bnd ?_ ?_); (first | omega | (simp; omega) | skip)) | ((with_reducible refine And.intro ?_ ?_); (first | rfl | exact Nat.le_of_ble_eq_true rfl | omega | (simp; done))) | ((with_reducible apply k_exe); rfl) | ((with_reducible first | apply k_condT | apply k_aug | apply k_lenO | apply k_tupO | apply k_isi | apply k_is | apply k_isn | apply k_ixT | apply k_ixL); rfl) | ((with_reducible apply k_condF); rfl) | ((with_reducible first | apply k_ixO | apply k_putI); rfl; rfl) | ((with_reducible first | apply k_lenS | apply k_mod | apply k_addS | apply k_mulI | apply k_addT | apply k_rep); (first | omega | (simp; omega) | (with_reducible assumption) | decide))))
            refine k_appI rfl (Nat.lt_of_le_of_lt (Nat.le_refl _) (by simp)) ?_
            exact ⟨_, _, _, _, _, _, _, rfl, rfl, q1, q2, rfl, fun s hs => by
              rcases List.mem_append.mp hs with hs | hs
              · exact hg s hs
              · rw [List.mem_singleton.mp hs]; exact treeB_gt hz ht⟩
          | false =>
            refine ⟨fun _ => ?_, (fun z => by cases z)⟩
            (repeat (first | (with_reducible first | refine k_seq ?_ | refine k_set ?_ | refine k_ret ?_ | refine k_c ?_ | refine k_call ?_ | refine k_aC ?_ | refine k_aN ?_ | refine k_2 ?_ | refine k_1 ?_ | refine k_tOf ?_ | refine k_sIf ?_ | refine k_B ?_ | refine k_tup ?_ | refine k_lst ?_ | refine k_new ?_ | refine k_addI ?_ | refine k_subI ?_ | refine k_eqI ?_ | refine k_neI ?_ | refine k_ltI ?_ | refine k_leI ?_ | refine k_gtI ?_ | refine k_geI ?_ | refine k_eqS ?_ | refine k_neS ?_ | refine k_for ?_ | refine k_forR ?_ | refine k_forG ?_ | refine k_pass ?_ | refine k_ex ?_ | refine k_retN ?_ | refine k_brk ?_ | refine k_cont ?_ | refine k_asg ?_ | refine k_setI ?_ | refine k_sl2 ?_ | refine k_slL ?_ | refine k_slH ?_ | refine k_app ?_ | refine k_ext ?_ | refine k_bk ?_ | refine k_no ?_ | refine k_tNo ?_ | refine k_tYs ?_ | refine k_if ?_ | refine k_gc ?_ | refine k_3B ?_ | refine k_lenT ?_ | refine k_lenL ?_ | refine k_lenC ?_ | refine k_tupT ?_ | refine k_tupL ?_ | refine k_lstL ?_ | refine k_lstC ?_ | refine k_lstT ?_ | refine k_ltS ?_ | refine k_m1 ?_ | refine k_m0 ?_ | refine k_cnt ?_ | refine k_min2 ?_ | refine k_eqB ?_ | refine k_neB ?_ | refine k_slT ?_ | refine k_slL' ?_ | refine k_slC ?_) | ((with_reducible apply k_v); rfl) | ((with_reducible refine k_bnd ?_ ?_); (first | omega | (simp; omega) | skip)) | ((with_reducible refine And.intro ?_ ?_); (first | rfl | exact Nat.le_of_ble_eq_true rfl | omega | (simp; done))) | ((with_reducible apply k_exe); rfl) | ((with_reducible first | apply k_condT | apply k_aug | apply k_lenO | apply k_tupO | apply k_isi | apply k_is | apply k_isn | apply k_ixT | apply k_ixL); rfl) | ((with_reducible apply k_condF); rfl) | ((with_reducible first | apply k_ixO | apply k_putI); rfl; rfl) | ((with_reducible first | apply k_lenS | apply k_mod | apply k_addS | apply k_mulI | apply k_addT | apply k_rep); (first | omega | (simp; omega) | (with_reducible assumption) | decide))))
            refine k_appI rfl (Nat.lt_of_le_of_lt (Nat.le_refl _) (by simp)) ?_
            exact ⟨_, _, _, _, _, _, _, rfl, rfl, q1, q2, rfl, fun s hs => by
              rcases List.mem_append.mp hs with hs | hs
              · exact hg s hs
              · rw [List.mem_singleton.mp hs]; exact g0⟩
      · obtain ⟨t0, t1, rfl⟩ : ∃ t0 t1, ts = [t0, t1] := by
          match ts, hts with
          | [t0, t1], _ => exact ⟨_, _, rfl⟩
        have e1 : (1 : Int) + ((1 : Nat) : Int) = 2 := rfl
        rw [e1]
        have g0 : Gt t0 := hg t0 (by simp)
        have g1 : Gt t1 := hg t1 (by simp)
        (repeat (first | (with_reducible first | refine k_seq ?_ | refine k_set ?_ | refine k_ret ?_ | refine k_c ?_ | refine k_call ?_ | refine k_aC ?_ | refine k_aN ?_ | refine k_2 ?_ | refine k_1 ?_ | refine k_tOf ?_ | refine k_sIf ?_ | refine k_B ?_ | refine k_tup ?_ | refine k_lst ?_ | refine k_new ?_ | refine k_addI ?_ | refine k_subI ?_ | refine k_eqI ?_ | refine k_neI ?_ | refine k_ltI ?_ | refine k_leI ?_ | refine k_gtI ?_ | refine k_geI ?_ | refine k_eqS ?_ | refine k_neS ?_ | refine k_for ?_ | refine k_forR ?_ | refine k_forG ?_ | refine k_pass ?_ | refine k_ex ?_ | refine k_retN ?_ | refine k_brk ?_ | refine k_cont ?_ | refine k_asg ?_ | refine k_setI ?_ | refine k_sl2 ?_ | refine k_slL ?_ | refine k_slH ?_ | refine k_app ?_ | refine k_ext ?_ | refine k_bk ?_ | refine k_no ?_ | refine k_tNo ?_ | refine k_tYs ?_ | refine k_if ?_ | refine k_gc ?_ | refine k_3B ?_ | refine k_lenT ?_ | refine k_lenL ?_ | refine k_lenC ?_ | refine k_tupT ?_ | refine k_tupL ?_ | refine k_lstL ?_ | refine k_lstC ?_ | refine k_lstT ?_ | refine k_ltS ?_ | refine k_m1 ?_ | refine k_m0 ?_ | refine k_cnt ?_ | refine k_min2 ?_ | refine k_eqB ?_ | refine k_neB ?_ | refine k_slT ?_ | refine k_slL' ?_ | refine k_slC ?_) | ((with_reducible apply k_v); rfl) | ((with_reducible refine k_bnd ?_ ?_); (first | omega | (simp; omega) | skip)) | ((with_reducible refine And.intro ?_ ?_); (first | rfl | exact Nat.le_of_ble_eq_true rfl | omega | (simp; done))) | ((with_reducible apply k_exe); rfl) | ((with_reducible first | apply k_condT | apply k_aug | apply k_lenO | apply k_tupO | apply k_isi | apply k_is | apply k_isn | apply k_ixT | apply k_ixL); rfl) | ((with_reducible apply k_condF); rfl) | ((with_reducible first | apply k_ixO | apply k_putI); rfl; rfl) | ((with_reducible first | apply k_lenS | apply k_mod | apply k_addS | apply k_mulI | apply k_addT | apply k_rep); (first | omega | (simp; omega) | (with_reducible assumption) | decide))))
        refine good_tree_s rfl q2 fun t a2 b2 g q2 => ?_
        refine k_seqI (fun e S => ∃ t a2 b2, e = [some (.lst (cs.map D.int)), some (.int k), some (.lst [.obj 0, .obj 1, .obj 2]), some (.obj 3), some (.int 2), some t] ∧ S = [.lst [.int a0, .int b0], .lst [.int a1, .int b1], .lst [.int a2, .int b2], .lst [t0, t1]] ∧ Pot a2 b2 ∧ tr 59 t) ?_ ?_
        · (repeat (first | (with_reducible first | refine k_seq ?_ | refine k_set ?_ | refine k_ret ?_ | refine k_c ?_ | refine k_call ?_ | refine k_aC ?_ | refine k_aN ?_ | refine k_2 ?_ | refine k_1 ?_ | refine k_tOf ?_ | refine k_sIf ?_ | refine k_B ?_ | refine k_tup ?_ | refine k_lst ?_ | refine k_new ?_ | refine k_addI ?_ | refine k_subI ?_ | refine k_eqI ?_ | refine k_neI ?_ | refine k_ltI ?_ | refine k_leI ?_ | refine k_gtI ?_ | refine k_geI ?_ | refine k_eqS ?_ | refine k_neS ?_ | refine k_for ?_ | refine k_forR ?_ | refine k_forG ?_ | refine k_pass ?_ | refine k_ex ?_ | refine k_retN ?_ | refine k_brk ?_ | refine k_cont ?_ | refine k_asg ?_ | refine k_setI ?_ | refine k_sl2 ?_ | refine k_slL ?_ | refine k_slH ?_ | refine k_app ?_ | refine k_ext ?_ | refine k_bk ?_ | refine k_no ?_ | refine k_tNo ?_ | refine k_tYs ?_ | refine k_if ?_ | refine k_gc ?_ | refine k_3B ?_ | refine k_lenT ?_ | refine k_lenL ?_ | refine k_lenC ?_ | refine k_tupT ?_ | refine k_tupL ?_ | refine k_lstL ?_ | refine k_lstC ?_ | refine k_lstT ?_ | refine k_ltS ?_ | refine k_m1 ?_ | refine k_m0 ?_ | refine k_cnt ?_ | refine k_min2 ?_ | refine k_eqB ?_ | refine k_neB ?_ | refine k_slT ?_ | refine k_slL' ?_ | refine k_slC ?_) | ((with_reducible apply k_v); rfl) | ((with_reducible refine k_bnd ?_ ?_); (first | omega | (simp; omega) | skip)) | ((with_reducible refine And.intro ?_ ?_); (first | rfl | exact Nat.le_of_ble_eq_true rfl | omega | (simp; done))) | ((with_reducible apply k_exe); rfl) | ((with_reducible first | apply k_condT | apply k_aug | apply k_lenO | apply k_tupO | apply k_isi | apply k_is | apply k_isn | apply k_ixT | apply k_ixL); rfl) | ((with_reducible apply k_condF); rfl) | ((with_reducible first | apply k_ixO | apply k_putI); rfl; rfl) | ((with_reducible first | apply k_lenS | apply k_mod | apply k_addS | apply k_mulI | apply k_addT | apply k_rep); (first | omega | (simp; omega) | (with_reducible assumption) | decide))))
          refine take_s rfl q2 (by decide) (by decide) fun d2 a2 b2 l2 u2 p2 => ?_
          (repeat (first | (with_reducible first | refine k_seq ?_ | refine k_set ?_ | refine k_ret ?_ | refine k_c ?_ | refine k_call ?_ | refine k_aC ?_ | refine k_aN ?_ | refine k_2 ?_ | refine k_1 ?_ | refine k_tOf ?_ | refine k_sIf ?_ | refine k_B ?_ | refine k_tup ?_ | refine k_lst ?_ | refine k_new ?_ | refine k_addI ?_ | refine k_subI ?_ | refine k_eqI ?_ | refine k_neI ?_ | refine k_ltI ?_ | refine k_leI ?_ | refine k_gtI ?_ | refine k_geI ?_ | refine k_eqS ?_ | refine k_neS ?_ | refine k_for ?_ | refine k_forR ?_ | refine k_forG ?_ | refine k_pass ?_ | refine k_ex ?_ | refine k_retN ?_ | refine k_brk ?_ | refine k_cont ?_ | refine k_asg ?_ | refine k_setI ?_ | refine k_sl2 ?_ | refine k_slL ?_ | refine k_slH ?_ | refine k_app ?_ | refine k_ext ?_ | refine k_bk ?_ | refine k_no ?_ | refine k_tNo ?_ | refine k_tYs ?_ | refine k_if ?_ | refine k_gc ?_ | refine k_3B ?_ | refine k_lenT ?_ | refine k_lenL ?_ | refine k_lenC ?_ | refine k_tupT ?_ | refine k_tupL ?_ | refine k_lstL ?_ | refine k_lstC ?_ | refine k_lstT ?_ | refine k_ltS ?_ | refine k_m1 ?_ | refine k_m0 ?_ | refine k_cnt ?_ | refine k_min2 ?_ | refine k_eqB ?_ | refine k_neB ?_ | refine k_slT ?_ | refine k_slL' ?_ | refine k_slC ?_) | ((with_reducible apply k_v); rfl) | ((with_reducible refine k_bnd ?_ ?_); (first | omega | (simp; omega) | skip)) | ((with_reducible refine And.intro ?_ ?_); (first | rfl | exact Nat.le_of_ble_eq_true rfl | omega | (simp; done))) | ((with_reducible apply k_exe); rfl) | ((with_reducible first | apply k_condT | apply k_aug | apply k_lenO | apply k_tupO | apply k_isi | apply k_is | apply k_isn | apply k_ixT | apply k_ixL); rfl) | ((with_reducible apply k_condF); rfl) | ((with_reducible first | apply k_ixO | apply k_putI); rfl; rfl) | ((with_reducible first | apply k_lenS | apply k_mod | apply k_addS | apply k_mulI | apply k_addT | apply k_rep); (first | omega | (simp; omega) | (with_reducible assumption) | decide))))
          refine ⟨fun _ => ?_, fun _ => ?_⟩
          · (repeat (first | (with_reducible first | refine k_seq ?_ | refine k_set ?_ | refine k_ret ?_ | refine k_c ?_ | refine k_call ?_ | refine k_aC ?_ | refine k_aN ?_ | refine k_2 ?_ | refine k_1 ?_ | refine k_tOf ?_ | refine k_sIf ?_ | refine k_B ?_ | refine k_tup ?_ | refine k_lst ?_ | refine k_new ?_ | refine k_addI ?_ | refine k_subI ?_ | refine k_eqI ?_ | refine k_neI ?_ | refine k_ltI ?_ | refine k_leI ?_ | refine k_gtI ?_ | refine k_geI ?_ | refine k_eqS ?_ | refine k_neS ?_ | refine k_for ?_ | refine k_forR ?_ | refine k_forG ?_ | refine k_pass ?_ | refine k_ex ?_ | refine k_retN ?_ | refine k_brk ?_ | refine k_cont ?_ | refine k_asg ?_ | refine k_setI ?_ | refine k_sl2 ?_ | refine k_slL ?_ | refine k_slH ?_ | refine k_app ?_ | refine k_ext ?_ | refine k_bk ?_ | refine k_no ?_ | refine k_tNo ?_ | refine k_tYs ?_ | refine k_if ?_ | refine k_gc ?_ | refine k_3B ?_ | refine k_lenT ?_ | refine k_lenL ?_ | refine k_lenC ?_ | refine k_tupT ?_ | refine k_tupL ?_ | refine k_lstL ?_ | refine k_lstC ?_ | refine k_lstT ?_ | refine k_ltS ?_ | refine k_m1 ?_ | refine k_m0 ?_ | refine k_cnt ?_ | refine k_min2 ?_ | refine k_eqB ?_ | refine k_neB ?_ | refine k_slT ?_ | refine k_slL' ?_ | refine k_slC ?_) | ((with_reducible apply k_v); rfl) | ((with_reducible refine k_bnd ?_ ?_); (first | omega | (simp; omega) | skip)) | ((with_reducible refine And.intro ?_ ?_); (first | rfl | exact Nat.le_of_ble_eq_true rfl | omega | (simp; done))) | ((with_reducible apply k_exe); rfl) | ((with_reducible first | apply k_condT | apply k_aug | apply k_lenO | apply k_tupO | apply k_isi | apply k_is | apply k_isn | apply k_ixT | apply k_ixL); rfl) | ((with_reducible apply k_condF); rfl) | ((with_reducible first | apply k_ixO | apply k_putI); rfl; rfl) | ((with_reducible first | apply k_lenS | apply k_mod | apply k_addS | apply k_mulI | apply k_addT | apply k_rep); (first | omega | (simp; omega) | (with_reducible assumption) | decide))))
            refine like_s 60 12 t1 (by decide) g1.s rfl p2 (fun t a b ht p => ?_) (by decide)
            exact ⟨_, _, _, rfl, rfl, p, tr_mono ht (by decide)⟩
          · (repeat (first | (with_reducible first | refine k_seq ?_ | refine k_set ?_ | refine k_ret ?_ | refine k_c ?_ | refine k_call ?_ | refine k_aC ?_ | refine k_aN ?_ | refine k_2 ?_ | refine k_1 ?_ | refine k_tOf ?_ | refine k_sIf ?_ | refine k_B ?_ | refine k_tup ?_ | refine k_lst ?_ | refine k_new ?_ | refine k_addI ?_ | refine k_subI ?_ | refine k_eqI ?_ | refine k_neI ?_ | refine k_ltI ?_ | refine k_leI ?_ | refine k_gtI ?_ | refine k_geI ?_ | refine k_eqS ?_ | refine k_neS ?_ | refine k_for ?_ | refine k_forR ?_ | refine k_forG ?_ | refine k_pass ?_ | refine k_ex ?_ | refine k_retN ?_ | refine k_brk ?_ | refine k_cont ?_ | refine k_asg ?_ | refine k_setI ?_ | refine k_sl2 ?_ | refine k_slL ?_ | refine k_slH ?_ | refine k_app ?_ | refine k_ext ?_ | refine k_bk ?_ | refine k_no ?_ | refine k_tNo ?_ | refine k_tYs ?_ | refine k_if ?_ | refine k_gc ?_ | refine k_3B ?_ | refine k_lenT ?_ | refine k_lenL ?_ | refine k_lenC ?_ | refine k_tupT ?_ | refine k_tupL ?_ | refine k_lstL ?_ | refine k_lstC ?_ | refine k_lstT ?_ | refine k_ltS ?_ | refine k_m1 ?_ | refine k_m0 ?_ | refine k_cnt ?_ | refine k_min2 ?_ | refine k_eqB ?_ | refine k_neB ?_ | refine k_slT ?_ | refine k_slL' ?_ | refine k_slC ?_) | ((with_reducible apply k_v); rfl) | ((with_reducible refine k_bnd ?_ ?_); (first | omega | (simp; omega) | skip)) | ((with_reducible refine And.intro ?_ ?_); (first | rfl | exact Nat.le_of_ble_eq_true rfl | omega | (simp; done))) | ((with_reducible apply k_exe); rfl) | ((with_reducible first | apply k_condT | apply k_aug | apply k_lenO | apply k_tupO | apply k_isi | apply k_is | apply k_isn | apply k_ixT | apply k_ixL); rfl) | ((with_reducible apply k_condF); rfl) | ((with_reducible first | apply k_ixO | apply k_putI); rfl; rfl) | ((with_reducible first | apply k_lenS | apply k_mod | apply k_addS | apply k_mulI | apply k_addT | apply k_rep); (first | omega | (simp; omega) | (with_reducible assumption) | decide))))
            exact ⟨_, _, _, rfl, rfl, p2, tr_mono g.tr (by decide)⟩
        · rintro _ _ ⟨t, a2, b2, rfl, rfl, q2, ht⟩
          (repeat (first | (with_reducible first | refine k_seq ?_ | refine k_set ?_ | refine k_ret ?_ | refine k_c ?_ | refine k_call ?_ | refine k_aC ?_ | refine k_aN ?_ | refine k_2 ?_ | refine k_1 ?_ | refine k_tOf ?_ | refine k_sIf ?_ | refine k_B ?_ | refine k_tup ?_ | refine k_lst ?_ | refine k_new ?_ | refine k_addI ?_ | refine k_subI ?_ | refine k_eqI ?_ | refine k_neI ?_ | refine k_ltI ?_ | refine k_leI ?_ | refine k_gtI ?_ | refine k_geI ?_ | refine k_eqS ?_ | refine k_neS ?_ | refine k_for ?_ | refine k_forR ?_ | refine k_forG ?_ | refine k_pass ?_ | refine k_ex ?_ | refine k_retN ?_ | refine k_brk ?_ | refine k_cont ?_ | refine k_asg ?_ | refine k_setI ?_ | refine k_sl2 ?_ | refine k_slL ?_ | refine k_slH ?_ | refine k_app ?_ | refine k_ext ?_ | refine k_bk ?_ | refine k_no ?_ | refine k_tNo ?_ | refine k_tYs ?_ | refine k_if ?_ | refine k_gc ?_ | refine k_3B ?_ | refine k_lenT ?_ | refine k_lenL ?_ | refine k_lenC ?_ | refine k_tupT ?_ | refine k_tupL ?_ | refine k_lstL ?_ | refine k_lstC ?_ | refine k_lstT ?_ | refine k_ltS ?_ | refine k_m1 ?_ | refine k_m0 ?_ | refine k_cnt ?_ | refine k_min2 ?_ | refine k_eqB ?_ | refine k_neB ?_ | refine k_slT ?_ | refine k_slL' ?_ | refine k_slC ?_) | ((with_reducible apply k_v); rfl) | ((with_reducible refine k_bnd ?_ ?_); (first | omega | (simp; omega) | skip)) | ((with_reducible refine And.intro ?_ ?_); (first | rfl | exact Nat.le_of_ble_eq_true rfl | omega | (simp; done))) | ((with_reducible apply k_exe); rfl) | ((with_reducible first | apply k_condT | apply k_aug | apply k_lenO | apply k_tupO | apply k_isi | apply k_is | apply k_isn | apply k_ixT | apply k_ixL); rfl) | ((with_reducible apply k_condF); rfl) | ((with_reducible first | apply k_ixO | apply k_putI); rfl; rfl) | ((with_reducible first | apply k_lenS | apply k_mod | apply k_addS | apply k_mulI | apply k_addT | apply k_rep); (first | omega | (simp; omega) | (with_reducible assumption) | decide))))
          refine law_is_tree_s (tr_wf ht) ?_
          (repeat (first | (with_reducible first | refine k_seq ?_ | refine k_set ?_ | refine k_ret ?_ | refine k_c ?_ | refine k_call ?_ | refine k_aC ?_ | refine k_aN ?_ | refine k_2 ?_ | refine k_1 ?_ | refine k_tOf ?_ | refine k_sIf ?_ | refine k_B ?_ | refine k_tup ?_ | refine k_lst ?_ | refine k_new ?_ | refine k_addI ?_ | refine k_subI ?_ | refine k_eqI ?_ | refine k_neI ?_ | refine k_ltI ?_ | refine k_leI ?_ | refine k_gtI ?_ | refine k_geI ?_ | refine k_eqS ?_ | refine k_neS ?_ | refine k_for ?_ | refine k_forR ?_ | refine k_forG ?_ | refine k_pass ?_ | refine k_ex ?_ | refine k_retN ?_ | refine k_brk ?_ | refine k_cont ?_ | refine k_asg ?_ | refine k_setI ?_ | refine k_sl2 ?_ | refine k_slL ?_ | refine k_slH ?_ | refine k_app ?_ | refine k_ext ?_ | refine k_bk ?_ | refine k_no ?_ | refine k_tNo ?_ | refine k_tYs ?_ | refine k_if ?_ | refine k_gc ?_ | refine k_3B ?_ | refine k_lenT ?_ | refine k_lenL ?_ | refine k_lenC ?_ | refine k_tupT ?_ | refine k_tupL ?_ | refine k_lstL ?_ | refine k_lstC ?_ | refine k_lstT ?_ | refine k_ltS ?_ | refine k_m1 ?_ | refine k_m0 ?_ | refine k_cnt ?_ | refine k_min2 ?_ | refine k_eqB ?_ | refine k_neB ?_ | refine k_slT ?_ | refine k_slL' ?_ | refine k_slC ?_) | ((with_reducible apply k_v); rfl) | ((with_reducible refine k_bnd ?_ ?_); (first | omega | (simp; omega) | skip)) | ((with_reducible refine And.intro ?_ ?_); (first | rfl | exact Nat.le_of_ble_eq_true rfl | omega | (simp; done))) | ((with_reducible apply k_exe); rfl) | ((with_reducible first | apply k_condT | apply k_aug | apply k_lenO | apply k_tupO | apply k_isi | apply k_is | apply k_isn | apply k_ixT | apply k_ixL); rfl) | ((with_reducible apply k_condF); rfl) | ((with_reducible first | apply k_ixO | apply k_putI); rfl; rfl) | ((with_reducible first | apply k_lenS | apply k_mod | apply k_addS | apply k_mulI | apply k_addT | apply k_rep); (first | omega | (simp; omega) | (with_reducible assumption) | decide))))
          cases hz : treeB t with
          | true =>
            refine ⟨(fun z => by cases z), fun _ => ?_⟩
            (repeat (first | (with_reducible first | refine k_seq ?_ | refine k_set ?_ | refine k_ret ?_ | refine k_c ?_ | refine k_call ?_ | refine k_aC ?_ | refine k_aN ?_ | refine k_2 ?_ | refine k_1 ?_ | refine k_tOf ?_ | refine k_sIf ?_ | refine k_B ?_ | refine k_tup ?_ | refine k_lst ?_ | refine k_new ?_ | refine k_addI ?_ | refine k_subI ?_ | refine k_eqI ?_ | refine k_neI ?_ | refine k_ltI ?_ | refine k_leI ?_ | refine k_gtI ?_ | refine k_geI ?_ | refine k_eqS ?_ | refine k_neS ?_ | refine k_for ?_ | refine k_forR ?_ | refine k_forG ?_ | refine k_pass ?_ | refine k_ex ?_ | refine k_retN ?_ | refine k_brk ?_ | refine k_cont ?_ | refine k_asg ?_ | refine k_setI ?_ | refine k_sl2 ?_ | refine k_slL ?_ | refine k_slH ?_ | refine k_app ?_ | refine k_ext ?_ | refine k_bk ?_ | refine k_no ?_ | refine k_tNo ?_ | refine k_tYs ?_ | refine k_if ?_ | refine k_gc ?_ | refine k_3B ?_ | refine k_lenT ?_ | refine k_lenL ?_ | refine k_lenC ?_ | refine k_tupT ?_ | refine k_tupL ?_ | refine k_lstL ?_ | refine k_lstC ?_ | refine k_lstT ?_ | refine k_ltS ?_ | refine k_m1 ?_ | refine k_m0 ?_ | refine k_cnt ?_ | refine k_min2 ?_ | refine k_eqB ?_ | refine k_neB ?_ | refine k_slT ?_ | refine k_slL' ?_ | refine k_slC ?_) | ((with_reducible apply k_v); rfl) | ((with_reducible refine k_bnd ?_ ?_); (first | omega | (simp; omega) | skip)) | ((with_reducible refine And.intro ?_ ?_); (first | rfl | exact Nat.le_of_ble_eq_true rfl | omega | (simp; done))) | ((with_reducible apply k_exe); rfl) | ((with_reducible first | apply k_condT | apply k_aug | apply k_lenO | apply k_tupO | apply k_isi | apply k_is | apply k_isn | apply k_ixT | apply k_ixL); rfl) | ((with_reducible apply k_condF); rfl) | ((with_reducible first | apply k_ixO | apply k_putI); rfl; rfl) | ((with_reducible first | apply k_lenS | apply k_mod | apply k_addS | apply k_mulI | apply k_addT | apply k_rep); (first | omega | (simp; omega) | (with_reducible assumption) | decide))))
            refine k_appI rfl (Nat.lt_of_le_of_lt (Nat.le_refl _) (by simp)) ?_
            exact ⟨_, _, _, _, _, _, _, rfl, rfl, q1, q2, rfl, fun s hs => by
              rcases List.mem_append.mp hs with hs | hs
              · exact hg s hs
              · rw [List.mem_singleton.mp hs]; exact treeB_gt hz ht⟩
          | false =>
            refine ⟨fun _ => ?_, (fun z => by cases z)⟩
            (repeat (first | (with_reducible first | refine k_seq ?_ | refine k_set ?_ | refine k_ret ?_ | refine k_c ?_ | refine k_call ?_ | refine k_aC ?_ | refine k_aN ?_ | refine k_2 ?_ | refine k_1 ?_ | refine k_tOf ?_ | refine k_sIf ?_ | refine k_B ?_ | refine k_tup ?_ | refine k_lst ?_ | refine k_new ?_ | refine k_addI ?_ | refine k_subI ?_ | refine k_eqI ?_ | refine k_neI ?_ | refine k_ltI ?_ | refine k_leI ?_ | refine k_gtI ?_ | refine k_geI ?_ | refine k_eqS ?_ | refine k_neS ?_ | refine k_for ?_ | refine k_forR ?_ | refine k_forG ?_ | refine k_pass ?_ | refine k_ex ?_ | refine k_retN ?_ | refine k_brk ?_ | refine k_cont ?_ | refine k_asg ?_ | refine k_setI ?_ | refine k_sl2 ?_ | refine k_slL ?_ | refine k_slH ?_ | refine k_app ?_ | refine k_ext ?_ | refine k_bk ?_ | refine k_no ?_ | refine k_tNo ?_ | refine k_tYs ?_ | refine k_if ?_ | refine k_gc ?_ | refine k_3B ?_ | refine k_lenT ?_ | refine k_lenL ?_ | refine k_lenC ?_ | refine k_tupT ?_ | refine k_tupL ?_ | refine k_lstL ?_ | refine k_lstC ?_ | refine k_lstT ?_ | refine k_ltS ?_ | refine k_m1 ?_ | refine k_m0 ?_ | refine k_cnt ?_ | refine k_min2 ?_ | refine k_eqB ?_ | refine k_neB ?_ | refine k_slT ?_ | refine k_slL' ?_ | refine k_slC ?_) | ((with_reducible apply k_v); rfl) | ((with_reducible refine k_bnd ?_ ?_); (first | omega | (simp; omega) | skip)) | ((with_reducible refine And.intro ?_ ?_); (first | rfl | exact Nat.le_of_ble_eq_true rfl | omega | (simp; done))) | ((with_reducible apply k_exe); rfl) | ((with_reducible first | apply k_condT | apply k_aug | apply k_lenO | apply k_tupO | apply k_isi | apply k_is | apply k_isn | apply k_ixT | apply k_ixL); rfl) | ((with_reducible apply k_condF); rfl) | ((with_reducible first | apply k_ixO | apply k_putI); rfl; rfl) | ((with_reducible first | apply k_lenS | apply k_mod | apply k_addS | apply k_mulI | apply k_addT | apply k_rep); (first | omega | (simp; omega) | (with_reducible assumption) | decide))))
            refine k_appI rfl (Nat.lt_of_le_of_lt (Nat.le_refl _) (by simp)) ?_
            exact ⟨_, _, _, _, _, _, _, rfl, rfl, q1, q2, rfl, fun s hs => by
              rcases List.mem_append.mp hs with hs | hs
              · exact hg s hs
              · rw [List.mem_singleton.mp hs]; exact g0⟩
    · rintro _ _ ⟨x4, x5, a1, b1, a2, b2, ts, rfl, rfl, q1, q2, hts, hg⟩
      obtain ⟨t0, t1, t2, rfl⟩ : ∃ t0 t1 t2, ts = [t0, t1, t2] := by
        match ts, hts with
        | [t0, t1, t2], _ => exact ⟨_, _, _, rfl⟩
      have g0 : Gt t0 := hg t0 (by simp)
      have g1 : Gt t1 := hg t1 (by simp)
      have g2 : Gt t2 := hg t2 (by simp)
      refine ⟨True.intro, ?_⟩
      (repeat (first | (with_reducible first | refine k_seq ?_ | refine k_set ?_ | refine k_ret ?_ | refine k_c ?_ | refine k_call ?_ | refine k_aC ?_ | refine k_aN ?_ | refine k_2 ?_ | refine k_1 ?_ | refine k_tOf ?_ | refine k_sIf ?_ | refine k_B ?_ | refine k_tup ?_ | refine k_lst ?_ | refine k_new ?_ | refine k_addI ?_ | refine k_subI ?_ | refine k_eqI ?_ | refine k_neI ?_ | refine k_ltI ?_ | refine k_leI ?_ | refine k_gtI ?_ | refine k_geI ?_ | refine k_eqS ?_ | refine k_neS ?_ | refine k_for ?_ | refine k_forR ?_ | refine k_forG ?_ | refine k_pass ?_ | refine k_ex ?_ | refine k_retN ?_ | refine k_brk ?_ | refine k_cont ?_ | refine k_asg ?_ | refine k_setI ?_ | refine k_sl2 ?_ | refine k_slL ?_ | refine k_slH ?_ | refine k_app ?_ | refine k_ext ?_ | refine k_bk ?_ | refine k_no ?_ | refine k_tNo ?_ | refine k_tYs ?_ | refine k_if ?_ | refine k_gc ?_ | refine k_3B ?_ | refine k_lenT ?_ | refine k_lenL ?_ | refine k_lenC ?_ | refine k_tupT ?_ | refine k_tupL ?_ | refine k_lstL ?_ | refine k_lstC ?_ | refine k_lstT ?_ | refine k_ltS ?_ | refine k_m1 ?_ | refine k_m0 ?_ | refine k_cnt ?_ | refine k_min2 ?_ | refine k_eqB ?_ | refine k_neB ?_ | refine k_slT ?_ | refine k_slL' ?_ | refine k_slC ?_) | ((with_reducible apply k_v); rfl) | ((with_reducible refine k_bnd ?_ ?_); (first | omega | (simp; omega) | skip)) | ((with_reducible refine And.intro ?_ ?_); (first | rfl | exact Nat.le_of_ble_eq_true rfl | omega | (simp; done))) | ((with_reducible apply k_exe); rfl) | ((with_reducible first | apply k_condT | apply k_aug | apply k_lenO | apply k_tupO | apply k_isi | apply k_is | apply k_isn | apply k_ixT | apply k_ixL); rfl) | ((with_reducible apply k_condF); rfl) | ((with_reducible first | apply k_ixO | apply k_putI); rfl; rfl) | ((with_reducible first | apply k_lenS | apply k_mod | apply k_addS | apply k_mulI | apply k_addT | apply k_rep); (first | omega | (simp; omega) | (with_reducible assumption) | decide))))
      have c0 := tr_cl g0.tr
      have c1 := tr_cl g1.tr
      have c2 := tr_cl g2.tr
      have hc : cl (.lst [t0, t1, t2]) = true := by simp [c0, c1, c2]
      exact ⟨⟨cl_low hc, rfl⟩, rfl, hc, h t0 t1 t2 g0 g1 g2⟩
/-! ### the law -/
theorem Df.symm {A B : List Nat} {k : Bool} (h : Df A B k) : Df B A (!k) := by
  obtain ⟨p, c, d, u, v, rfl, rfl, h1, rfl⟩ := h
  refine ⟨p, d, c, v, u, rfl, rfl, Ne.symm h1, ?_⟩
  by_cases z : c < d
  · simp [z]; omega
  · simp [z]; omega
theorem tri {n : Nat} {a b : D} (ha : tr n a) (hb : tr n b) : (tlt a b = true ∧ tlt b a = false ∧ teq a b = false) ∨ (tlt a b = false ∧ tlt b a = true ∧ teq a b = false) ∨ (tlt a b = false ∧ tlt b a = false ∧ teq a b = true) := by
  by_cases h : a = b
  · subst h
    refine .inr (.inr ⟨?_, ?_, (teq_iff ha ha).mpr rfl⟩) <;> exact decide_eq_false (List.lt_irrefl _)
  · obtain ⟨k, hk⟩ := enc_df n a b ha hb h
    have h1 : tlt a b = k := hk.lt
    have h2 : tlt b a = !k := hk.symm.lt
    have h3 : teq a b = false := by
      cases q : teq a b with
      | false => rfl
      | true => exact absurd ((teq_iff ha hb).mp q) h
    rw [h1, h2, h3]
    cases k with
    | true => exact .inl ⟨rfl, rfl, rfl⟩
    | false => exact .inr (.inl ⟨rfl, rfl, rfl⟩)
theorem tlt_trans {a b c : D} (h1 : tlt a b = true) (h2 : tlt b c = true) : tlt a c = true :=
  decide_eq_true (List.lt_trans (of_decide_eq_true h1) (of_decide_eq_true h2))
theorem text_eq (a b : D) : decide ((⟨(tt a).toArray⟩ : Str) = ⟨(tt b).toArray⟩) = teq a b := by
  unfold teq
  refine decide_eq_decide.mpr ⟨fun h => ?_, fun h => by rw [h]⟩
  injection h with h
  exact Array.toList_inj.mpr h |> fun z => by simpa using z
end Law

namespace Law
open PySem PySem.Spec PyProof.Rows L2 DL
theorem law_true (ns : List Int) (hns : ns.length ≤ 63) : ∃ S, m_law [.scr (ns.map D.int)] [] = .ok (.bl true) S := by
  suffices H : OkE (m_law [.scr (ns.map D.int)] []) (fun d S => d = .bl true) noX by
    obtain ⟨d, S, h1, rfl⟩ := H.eq
    exact ⟨S, h1⟩
  unfold m_law b_law
  refine k_fnK ?_
  (repeat (first | (with_reducible first | refine k_seq ?_ | refine k_set ?_ | refine k_ret ?_ | refine k_c ?_ | refine k_call ?_ | refine k_aC ?_ | refine k_aN ?_ | refine k_2 ?_ | refine k_1 ?_ | refine k_tOf ?_ | refine k_sIf ?_ | refine k_B ?_ | refine k_tup ?_ | refine k_lst ?_ | refine k_new ?_ | refine k_addI ?_ | refine k_subI ?_ | refine k_eqI ?_ | refine k_neI ?_ | refine k_ltI ?_ | refine k_leI ?_ | refine k_gtI ?_ | refine k_geI ?_ | refine k_eqS ?_ | refine k_neS ?_ | refine k_for ?_ | refine k_forR ?_ | refine k_forG ?_ | refine k_pass ?_ | refine k_ex ?_ | refine k_retN ?_ | refine k_brk ?_ | refine k_cont ?_ | refine k_asg ?_ | refine k_setI ?_ | refine k_sl2 ?_ | refine k_slL ?_ | refine k_slH ?_ | refine k_app ?_ | refine k_ext ?_ | refine k_bk ?_ | refine k_no ?_ | refine k_tNo ?_ | refine k_tYs ?_ | refine k_if ?_ | refine k_gc ?_ | refine k_3B ?_ | refine k_lenT ?_ | refine k_lenL ?_ | refine k_lenC ?_ | refine k_tupT ?_ | refine k_tupL ?_ | refine k_lstL ?_ | refine k_lstC ?_ | refine k_lstT ?_ | refine k_ltS ?_ | refine k_m1 ?_ | refine k_m0 ?_ | refine k_cnt ?_ | refine k_min2 ?_ | refine k_eqB ?_ | refine k_neB ?_ | refine k_slT ?_ | refine k_slL' ?_ | refine k_slC ?_) | ((with_reducible apply k_v); rfl) | ((with_reducible refine k_bnd ?_ ?_); (first | omega | (simp; omega) | skip)) | ((with_reducible refine And.intro ?_ ?_); (first | rfl | exact Nat.le_of_ble_eq_true rfl | omega | (simp; done))) | ((with_reducible apply k_exe); rfl) | ((with_reducible first | apply k_condT | apply k_aug | apply k_lenO | apply k_tupO | apply k_isi | apply k_is | apply k_isn | apply k_ixT | apply k_ixL); rfl) | ((with_reducible apply k_condF); rfl) | ((with_reducible first | apply k_ixO | apply k_putI); rfl; rfl) | ((with_reducible first | apply k_lenS | apply k_mod | apply k_addS | apply k_mulI | apply k_addT | apply k_rep); (first | omega | (simp; omega) | (with_reducible assumption) | decide))))
  refine k_cells (by omega) fun cs hpos hcl => ?_
  (repeat (first | (with_reducible first | refine k_seq ?_ | refine k_set ?_ | refine k_ret ?_ | refine k_c ?_ | refine k_call ?_ | refine k_aC ?_ | refine k_aN ?_ | refine k_2 ?_ | refine k_1 ?_ | refine k_tOf ?_ | refine k_sIf ?_ | refine k_B ?_ | refine k_tup ?_ | refine k_lst ?_ | refine k_new ?_ | refine k_addI ?_ | refine k_subI ?_ | refine k_eqI ?_ | refine k_neI ?_ | refine k_ltI ?_ | refine k_leI ?_ | refine k_gtI ?_ | refine k_geI ?_ | refine k_eqS ?_ | refine k_neS ?_ | refine k_for ?_ | refine k_forR ?_ | refine k_forG ?_ | refine k_pass ?_ | refine k_ex ?_ | refine k_retN ?_ | refine k_brk ?_ | refine k_cont ?_ | refine k_asg ?_ | refine k_setI ?_ | refine k_sl2 ?_ | refine k_slL ?_ | refine k_slH ?_ | refine k_app ?_ | refine k_ext ?_ | refine k_bk ?_ | refine k_no ?_ | refine k_tNo ?_ | refine k_tYs ?_ | refine k_if ?_ | refine k_gc ?_ | refine k_3B ?_ | refine k_lenT ?_ | refine k_lenL ?_ | refine k_lenC ?_ | refine k_tupT ?_ | refine k_tupL ?_ | refine k_lstL ?_ | refine k_lstC ?_ | refine k_lstT ?_ | refine k_ltS ?_ | refine k_m1 ?_ | refine k_m0 ?_ | refine k_cnt ?_ | refine k_min2 ?_ | refine k_eqB ?_ | refine k_neB ?_ | refine k_slT ?_ | refine k_slL' ?_ | refine k_slC ?_) | ((with_reducible apply k_v); rfl) | ((with_reducible refine k_bnd ?_ ?_); (first | omega | (simp; omega) | skip)) | ((with_reducible refine And.intro ?_ ?_); (first | rfl | exact Nat.le_of_ble_eq_true rfl | omega | (simp; done))) | ((with_reducible apply k_exe); rfl) | ((with_reducible first | apply k_condT | apply k_aug | apply k_lenO | apply k_tupO | apply k_isi | apply k_is | apply k_isn | apply k_ixT | apply k_ixL); rfl) | ((with_reducible apply k_condF); rfl) | ((with_reducible first | apply k_ixO | apply k_putI); rfl; rfl) | ((with_reducible first | apply k_lenS | apply k_mod | apply k_addS | apply k_mulI | apply k_addT | apply k_rep); (first | omega | (simp; omega) | (with_reducible assumption) | decide))))
  refine OkS_for (fun i e S => ∃ x2 x3 x4 x5 x6 x7 x8 x9, e = [some (.scr (ns.map D.int)), some (.lst (cs.map D.int)), x2, x3, x4, x5, x6, x7, x8, x9] ∧ S = []) (k := 0) ⟨none, none, none, none, none, none, none, none, rfl, rfl⟩ ?_ ?_
  · rintro i d _ _ hd ⟨x2, x3, x4, x5, x6, x7, x8, x9, rfl, rfl⟩
    obtain ⟨hi, rfl⟩ := rng_at hd
    refine ⟨True.intro, _, rfl, ?_⟩
    (repeat (first | (with_reducible first | refine k_seq ?_ | refine k_set ?_ | refine k_ret ?_ | refine k_c ?_ | refine k_call ?_ | refine k_aC ?_ | refine k_aN ?_ | refine k_2 ?_ | refine k_1 ?_ | refine k_tOf ?_ | refine k_sIf ?_ | refine k_B ?_ | refine k_tup ?_ | refine k_lst ?_ | refine k_new ?_ | refine k_addI ?_ | refine k_subI ?_ | refine k_eqI ?_ | refine k_neI ?_ | refine k_ltI ?_ | refine k_leI ?_ | refine k_gtI ?_ | refine k_geI ?_ | refine k_eqS ?_ | refine k_neS ?_ | refine k_for ?_ | refine k_forR ?_ | refine k_forG ?_ | refine k_pass ?_ | refine k_ex ?_ | refine k_retN ?_ | refine k_brk ?_ | refine k_cont ?_ | refine k_asg ?_ | refine k_setI ?_ | refine k_sl2 ?_ | refine k_slL ?_ | refine k_slH ?_ | refine k_app ?_ | refine k_ext ?_ | refine k_bk ?_ | refine k_no ?_ | refine k_tNo ?_ | refine k_tYs ?_ | refine k_if ?_ | refine k_gc ?_ | refine k_3B ?_ | refine k_lenT ?_ | refine k_lenL ?_ | refine k_lenC ?_ | refine k_tupT ?_ | refine k_tupL ?_ | refine k_lstL ?_ | refine k_lstC ?_ | refine k_lstT ?_ | refine k_ltS ?_ | refine k_m1 ?_ | refine k_m0 ?_ | refine k_cnt ?_ | refine k_min2 ?_ | refine k_eqB ?_ | refine k_neB ?_ | refine k_slT ?_ | refine k_slL' ?_ | refine k_slC ?_) | ((with_reducible apply k_v); rfl) | ((with_reducible refine k_bnd ?_ ?_); (first | omega | (simp; omega) | skip)) | ((with_reducible refine And.intro ?_ ?_); (first | rfl | exact Nat.le_of_ble_eq_true rfl | omega | (simp; done))) | ((with_reducible apply k_exe); rfl) | ((with_reducible first | apply k_condT | apply k_aug | apply k_lenO | apply k_tupO | apply k_isi | apply k_is | apply k_isn | apply k_ixT | apply k_ixL); rfl) | ((with_reducible apply k_condF); rfl) | ((with_reducible first | apply k_ixO | apply k_putI); rfl; rfl) | ((with_reducible first | apply k_lenS | apply k_mod | apply k_addS | apply k_mulI | apply k_addT | apply k_rep); (first | omega | (simp; omega) | (with_reducible assumption) | decide))))
    refine three_s hpos fun t0 t1 t2 g0 g1 g2 => ?_
    have hall : ∀ (i : Nat) (t : D), [t0, t1, t2][i]? = some t → Gt t := fun i t ht => by
      have := List.mem_of_getElem? ht
      simp only [List.mem_cons, List.not_mem_nil, or_false] at this
      rcases this with rfl | rfl | rfl <;> assumption
    (repeat (first | (with_reducible first | refine k_seq ?_ | refine k_set ?_ | refine k_ret ?_ | refine k_c ?_ | refine k_call ?_ | refine k_aC ?_ | refine k_aN ?_ | refine k_2 ?_ | refine k_1 ?_ | refine k_tOf ?_ | refine k_sIf ?_ | refine k_B ?_ | refine k_tup ?_ | refine k_lst ?_ | refine k_new ?_ | refine k_addI ?_ | refine k_subI ?_ | refine k_eqI ?_ | refine k_neI ?_ | refine k_ltI ?_ | refine k_leI ?_ | refine k_gtI ?_ | refine k_geI ?_ | refine k_eqS ?_ | refine k_neS ?_ | refine k_for ?_ | refine k_forR ?_ | refine k_forG ?_ | refine k_pass ?_ | refine k_ex ?_ | refine k_retN ?_ | refine k_brk ?_ | refine k_cont ?_ | refine k_asg ?_ | refine k_setI ?_ | refine k_sl2 ?_ | refine k_slL ?_ | refine k_slH ?_ | refine k_app ?_ | refine k_ext ?_ | refine k_bk ?_ | refine k_no ?_ | refine k_tNo ?_ | refine k_tYs ?_ | refine k_if ?_ | refine k_gc ?_ | refine k_3B ?_ | refine k_lenT ?_ | refine k_lenL ?_ | refine k_lenC ?_ | refine k_tupT ?_ | refine k_tupL ?_ | refine k_lstL ?_ | refine k_lstC ?_ | refine k_lstT ?_ | refine k_ltS ?_ | refine k_m1 ?_ | refine k_m0 ?_ | refine k_cnt ?_ | refine k_min2 ?_ | refine k_eqB ?_ | refine k_neB ?_ | refine k_slT ?_ | refine k_slL' ?_ | refine k_slC ?_) | ((with_reducible apply k_v); rfl) | ((with_reducible refine k_bnd ?_ ?_); (first | omega | (simp; omega) | skip)) | ((with_reducible refine And.intro ?_ ?_); (first | rfl | exact Nat.le_of_ble_eq_true rfl | omega | (simp; done))) | ((with_reducible apply k_exe); rfl) | ((with_reducible first | apply k_condT | apply k_aug | apply k_lenO | apply k_tupO | apply k_isi | apply k_is | apply k_isn | apply k_ixT | apply k_ixL); rfl) | ((with_reducible apply k_condF); rfl) | ((with_reducible first | apply k_ixO | apply k_putI); rfl; rfl) | ((with_reducible first | apply k_lenS | apply k_mod | apply k_addS | apply k_mulI | apply k_addT | apply k_rep); (first | omega | (simp; omega) | (with_reducible assumption) | decide))))
    generalize (D.int (0 + (i : Int))) = kk
    refine OkS_for (fun i e S => ∃ x4 x5 x6 x7 x8 x9, e = [some (.scr (ns.map D.int)), some (.lst (cs.map D.int)), some kk, some (.lst [t0, t1, t2]), x4, x5, x6, x7, x8, x9] ∧ S = []) (k := 0) ⟨x4, x5, x6, x7, x8, x9, rfl, rfl⟩ ?_ ?_
    · rintro i one _ _ hone ⟨x4, x5, x6, x7, x8, x9, rfl, rfl⟩
      have ga := hall i one hone
      refine ⟨rfl, _, rfl, ?_⟩
      (repeat (first | (with_reducible first | refine k_seq ?_ | refine k_set ?_ | refine k_ret ?_ | refine k_c ?_ | refine k_call ?_ | refine k_aC ?_ | refine k_aN ?_ | refine k_2 ?_ | refine k_1 ?_ | refine k_tOf ?_ | refine k_sIf ?_ | refine k_B ?_ | refine k_tup ?_ | refine k_lst ?_ | refine k_new ?_ | refine k_addI ?_ | refine k_subI ?_ | refine k_eqI ?_ | refine k_neI ?_ | refine k_ltI ?_ | refine k_leI ?_ | refine k_gtI ?_ | refine k_geI ?_ | refine k_eqS ?_ | refine k_neS ?_ | refine k_for ?_ | refine k_forR ?_ | refine k_forG ?_ | refine k_pass ?_ | refine k_ex ?_ | refine k_retN ?_ | refine k_brk ?_ | refine k_cont ?_ | refine k_asg ?_ | refine k_setI ?_ | refine k_sl2 ?_ | refine k_slL ?_ | refine k_slH ?_ | refine k_app ?_ | refine k_ext ?_ | refine k_bk ?_ | refine k_no ?_ | refine k_tNo ?_ | refine k_tYs ?_ | refine k_if ?_ | refine k_gc ?_ | refine k_3B ?_ | refine k_lenT ?_ | refine k_lenL ?_ | refine k_lenC ?_ | refine k_tupT ?_ | refine k_tupL ?_ | refine k_lstL ?_ | refine k_lstC ?_ | refine k_lstT ?_ | refine k_ltS ?_ | refine k_m1 ?_ | refine k_m0 ?_ | refine k_cnt ?_ | refine k_min2 ?_ | refine k_eqB ?_ | refine k_neB ?_ | refine k_slT ?_ | refine k_slL' ?_ | refine k_slC ?_) | ((with_reducible apply k_v); rfl) | ((with_reducible refine k_bnd ?_ ?_); (first | omega | (simp; omega) | skip)) | ((with_reducible refine And.intro ?_ ?_); (first | rfl | exact Nat.le_of_ble_eq_true rfl | omega | (simp; done))) | ((with_reducible apply k_exe); rfl) | ((with_reducible first | apply k_condT | apply k_aug | apply k_lenO | apply k_tupO | apply k_isi | apply k_is | apply k_isn | apply k_ixT | apply k_ixL); rfl) | ((with_reducible apply k_condF); rfl) | ((with_reducible first | apply k_ixO | apply k_putI); rfl; rfl) | ((with_reducible first | apply k_lenS | apply k_mod | apply k_addS | apply k_mulI | apply k_addT | apply k_rep); (first | omega | (simp; omega) | (with_reducible assumption) | decide))))
      refine OkS_for (fun i e S => ∃ x5 x6 x7 x8 x9, e = [some (.scr (ns.map D.int)), some (.lst (cs.map D.int)), some kk, some (.lst [t0, t1, t2]), some one, x5, x6, x7, x8, x9] ∧ S = []) (k := 0) ⟨x5, x6, x7, x8, x9, rfl, rfl⟩ ?_ ?_
      · rintro i other _ _ hoth ⟨x5, x6, x7, x8, x9, rfl, rfl⟩
        have gb := hall i other hoth
        refine ⟨rfl, _, rfl, ?_⟩
        have ta := tr_mono ga.tr (show 12 ≤ 59 by decide)
        have tb := tr_mono gb.tr (show 12 ≤ 59 by decide)
        have la := ga.t
        have lb := gb.t
        (repeat (first | (with_reducible first | refine k_seq ?_ | refine k_set ?_ | refine k_ret ?_ | refine k_c ?_ | refine k_call ?_ | refine k_aC ?_ | refine k_aN ?_ | refine k_2 ?_ | refine k_1 ?_ | refine k_tOf ?_ | refine k_sIf ?_ | refine k_B ?_ | refine k_tup ?_ | refine k_lst ?_ | refine k_new ?_ | refine k_addI ?_ | refine k_subI ?_ | refine k_eqI ?_ | refine k_neI ?_ | refine k_ltI ?_ | refine k_leI ?_ | refine k_gtI ?_ | refine k_geI ?_ | refine k_eqS ?_ | refine k_neS ?_ | refine k_for ?_ | refine k_forR ?_ | refine k_forG ?_ | refine k_pass ?_ | refine k_ex ?_ | refine k_retN ?_ | refine k_brk ?_ | refine k_cont ?_ | refine k_asg ?_ | refine k_setI ?_ | refine k_sl2 ?_ | refine k_slL ?_ | refine k_slH ?_ | refine k_app ?_ | refine k_ext ?_ | refine k_bk ?_ | refine k_no ?_ | refine k_tNo ?_ | refine k_tYs ?_ | refine k_if ?_ | refine k_gc ?_ | refine k_3B ?_ | refine k_lenT ?_ | refine k_lenL ?_ | refine k_lenC ?_ | refine k_tupT ?_ | refine k_tupL ?_ | refine k_lstL ?_ | refine k_lstC ?_ | refine k_lstT ?_ | refine k_ltS ?_ | refine k_m1 ?_ | refine k_m0 ?_ | refine k_cnt ?_ | refine k_min2 ?_ | refine k_eqB ?_ | refine k_neB ?_ | refine k_slT ?_ | refine k_slL' ?_ | refine k_slC ?_) | ((with_reducible apply k_v); rfl) | ((with_reducible refine k_bnd ?_ ?_); (first | omega | (simp; omega) | skip)) | ((with_reducible refine And.intro ?_ ?_); (first | rfl | exact Nat.le_of_ble_eq_true rfl | omega | (simp; done))) | ((with_reducible apply k_exe); rfl) | ((with_reducible first | apply k_condT | apply k_aug | apply k_lenO | apply k_tupO | apply k_isi | apply k_is | apply k_isn | apply k_ixT | apply k_ixL); rfl) | ((with_reducible apply k_condF); rfl) | ((with_reducible first | apply k_ixO | apply k_putI); rfl; rfl) | ((with_reducible first | apply k_lenS | apply k_mod | apply k_addS | apply k_mulI | apply k_addT | apply k_rep); (first | omega | (simp; omega) | (with_reducible assumption) | decide))))
        refine is_ahead_s ga.tr gb.tr (by decide) ?_
        (repeat (first | (with_reducible first | refine k_seq ?_ | refine k_set ?_ | refine k_ret ?_ | refine k_c ?_ | refine k_call ?_ | refine k_aC ?_ | refine k_aN ?_ | refine k_2 ?_ | refine k_1 ?_ | refine k_tOf ?_ | refine k_sIf ?_ | refine k_B ?_ | refine k_tup ?_ | refine k_lst ?_ | refine k_new ?_ | refine k_addI ?_ | refine k_subI ?_ | refine k_eqI ?_ | refine k_neI ?_ | refine k_ltI ?_ | refine k_leI ?_ | refine k_gtI ?_ | refine k_geI ?_ | refine k_eqS ?_ | refine k_neS ?_ | refine k_for ?_ | refine k_forR ?_ | refine k_forG ?_ | refine k_pass ?_ | refine k_ex ?_ | refine k_retN ?_ | refine k_brk ?_ | refine k_cont ?_ | refine k_asg ?_ | refine k_setI ?_ | refine k_sl2 ?_ | refine k_slL ?_ | refine k_slH ?_ | refine k_app ?_ | refine k_ext ?_ | refine k_bk ?_ | refine k_no ?_ | refine k_tNo ?_ | refine k_tYs ?_ | refine k_if ?_ | refine k_gc ?_ | refine k_3B ?_ | refine k_lenT ?_ | refine k_lenL ?_ | refine k_lenC ?_ | refine k_tupT ?_ | refine k_tupL ?_ | refine k_lstL ?_ | refine k_lstC ?_ | refine k_lstT ?_ | refine k_ltS ?_ | refine k_m1 ?_ | refine k_m0 ?_ | refine k_cnt ?_ | refine k_min2 ?_ | refine k_eqB ?_ | refine k_neB ?_ | refine k_slT ?_ | refine k_slL' ?_ | refine k_slC ?_) | ((with_reducible apply k_v); rfl) | ((with_reducible refine k_bnd ?_ ?_); (first | omega | (simp; omega) | skip)) | ((with_reducible refine And.intro ?_ ?_); (first | rfl | exact Nat.le_of_ble_eq_true rfl | omega | (simp; done))) | ((with_reducible apply k_exe); rfl) | ((with_reducible first | apply k_condT | apply k_aug | apply k_lenO | apply k_tupO | apply k_isi | apply k_is | apply k_isn | apply k_ixT | apply k_ixL); rfl) | ((with_reducible apply k_condF); rfl) | ((with_reducible first | apply k_ixO | apply k_putI); rfl; rfl) | ((with_reducible first | apply k_lenS | apply k_mod | apply k_addS | apply k_mulI | apply k_addT | apply k_rep); (first | omega | (simp; omega) | (with_reducible assumption) | decide))))
        refine k_tOB ?_
        (repeat (first | (with_reducible first | refine k_seq ?_ | refine k_set ?_ | refine k_ret ?_ | refine k_c ?_ | refine k_call ?_ | refine k_aC ?_ | refine k_aN ?_ | refine k_2 ?_ | refine k_1 ?_ | refine k_tOf ?_ | refine k_sIf ?_ | refine k_B ?_ | refine k_tup ?_ | refine k_lst ?_ | refine k_new ?_ | refine k_addI ?_ | refine k_subI ?_ | refine k_eqI ?_ | refine k_neI ?_ | refine k_ltI ?_ | refine k_leI ?_ | refine k_gtI ?_ | refine k_geI ?_ | refine k_eqS ?_ | refine k_neS ?_ | refine k_for ?_ | refine k_forR ?_ | refine k_forG ?_ | refine k_pass ?_ | refine k_ex ?_ | refine k_retN ?_ | refine k_brk ?_ | refine k_cont ?_ | refine k_asg ?_ | refine k_setI ?_ | refine k_sl2 ?_ | refine k_slL ?_ | refine k_slH ?_ | refine k_app ?_ | refine k_ext ?_ | refine k_bk ?_ | refine k_no ?_ | refine k_tNo ?_ | refine k_tYs ?_ | refine k_if ?_ | refine k_gc ?_ | refine k_3B ?_ | refine k_lenT ?_ | refine k_lenL ?_ | refine k_lenC ?_ | refine k_tupT ?_ | refine k_tupL ?_ | refine k_lstL ?_ | refine k_lstC ?_ | refine k_lstT ?_ | refine k_ltS ?_ | refine k_m1 ?_ | refine k_m0 ?_ | refine k_cnt ?_ | refine k_min2 ?_ | refine k_eqB ?_ | refine k_neB ?_ | refine k_slT ?_ | refine k_slL' ?_ | refine k_slC ?_) | ((with_reducible apply k_v); rfl) | ((with_reducible refine k_bnd ?_ ?_); (first | omega | (simp; omega) | skip)) | ((with_reducible refine And.intro ?_ ?_); (first | rfl | exact Nat.le_of_ble_eq_true rfl | omega | (simp; done))) | ((with_reducible apply k_exe); rfl) | ((with_reducible first | apply k_condT | apply k_aug | apply k_lenO | apply k_tupO | apply k_isi | apply k_is | apply k_isn | apply k_ixT | apply k_ixL); rfl) | ((with_reducible apply k_condF); rfl) | ((with_reducible first | apply k_ixO | apply k_putI); rfl; rfl) | ((with_reducible first | apply k_lenS | apply k_mod | apply k_addS | apply k_mulI | apply k_addT | apply k_rep); (first | omega | (simp; omega) | (with_reducible assumption) | decide))))
        refine law_ahead_s 59 one other ta tb (by decide) ?_
        (repeat (first | (with_reducible first | refine k_seq ?_ | refine k_set ?_ | refine k_ret ?_ | refine k_c ?_ | refine k_call ?_ | refine k_aC ?_ | refine k_aN ?_ | refine k_2 ?_ | refine k_1 ?_ | refine k_tOf ?_ | refine k_sIf ?_ | refine k_B ?_ | refine k_tup ?_ | refine k_lst ?_ | refine k_new ?_ | refine k_addI ?_ | refine k_subI ?_ | refine k_eqI ?_ | refine k_neI ?_ | refine k_ltI ?_ | refine k_leI ?_ | refine k_gtI ?_ | refine k_geI ?_ | refine k_eqS ?_ | refine k_neS ?_ | refine k_for ?_ | refine k_forR ?_ | refine k_forG ?_ | refine k_pass ?_ | refine k_ex ?_ | refine k_retN ?_ | refine k_brk ?_ | refine k_cont ?_ | refine k_asg ?_ | refine k_setI ?_ | refine k_sl2 ?_ | refine k_slL ?_ | refine k_slH ?_ | refine k_app ?_ | refine k_ext ?_ | refine k_bk ?_ | refine k_no ?_ | refine k_tNo ?_ | refine k_tYs ?_ | refine k_if ?_ | refine k_gc ?_ | refine k_3B ?_ | refine k_lenT ?_ | refine k_lenL ?_ | refine k_lenC ?_ | refine k_tupT ?_ | refine k_tupL ?_ | refine k_lstL ?_ | refine k_lstC ?_ | refine k_lstT ?_ | refine k_ltS ?_ | refine k_m1 ?_ | refine k_m0 ?_ | refine k_cnt ?_ | refine k_min2 ?_ | refine k_eqB ?_ | refine k_neB ?_ | refine k_slT ?_ | refine k_slL' ?_ | refine k_slC ?_) | ((with_reducible apply k_v); rfl) | ((with_reducible refine k_bnd ?_ ?_); (first | omega | (simp; omega) | skip)) | ((with_reducible refine And.intro ?_ ?_); (first | rfl | exact Nat.le_of_ble_eq_true rfl | omega | (simp; done))) | ((with_reducible apply k_exe); rfl) | ((with_reducible first | apply k_condT | apply k_aug | apply k_lenO | apply k_tupO | apply k_isi | apply k_is | apply k_isn | apply k_ixT | apply k_ixL); rfl) | ((with_reducible apply k_condF); rfl) | ((with_reducible first | apply k_ixO | apply k_putI); rfl; rfl) | ((with_reducible first | apply k_lenS | apply k_mod | apply k_addS | apply k_mulI | apply k_addT | apply k_rep); (first | omega | (simp; omega) | (with_reducible assumption) | decide))))
        refine k_condF (by simp [isi]) ?_
        (repeat (first | (with_reducible first | refine k_seq ?_ | refine k_set ?_ | refine k_ret ?_ | refine k_c ?_ | refine k_call ?_ | refine k_aC ?_ | refine k_aN ?_ | refine k_2 ?_ | refine k_1 ?_ | refine k_tOf ?_ | refine k_sIf ?_ | refine k_B ?_ | refine k_tup ?_ | refine k_lst ?_ | refine k_new ?_ | refine k_addI ?_ | refine k_subI ?_ | refine k_eqI ?_ | refine k_neI ?_ | refine k_ltI ?_ | refine k_leI ?_ | refine k_gtI ?_ | refine k_geI ?_ | refine k_eqS ?_ | refine k_neS ?_ | refine k_for ?_ | refine k_forR ?_ | refine k_forG ?_ | refine k_pass ?_ | refine k_ex ?_ | refine k_retN ?_ | refine k_brk ?_ | refine k_cont ?_ | refine k_asg ?_ | refine k_setI ?_ | refine k_sl2 ?_ | refine k_slL ?_ | refine k_slH ?_ | refine k_app ?_ | refine k_ext ?_ | refine k_bk ?_ | refine k_no ?_ | refine k_tNo ?_ | refine k_tYs ?_ | refine k_if ?_ | refine k_gc ?_ | refine k_3B ?_ | refine k_lenT ?_ | refine k_lenL ?_ | refine k_lenC ?_ | refine k_tupT ?_ | refine k_tupL ?_ | refine k_lstL ?_ | refine k_lstC ?_ | refine k_lstT ?_ | refine k_ltS ?_ | refine k_m1 ?_ | refine k_m0 ?_ | refine k_cnt ?_ | refine k_min2 ?_ | refine k_eqB ?_ | refine k_neB ?_ | refine k_slT ?_ | refine k_slL' ?_ | refine k_slC ?_) | ((with_reducible apply k_v); rfl) | ((with_reducible refine k_bnd ?_ ?_); (first | omega | (simp; omega) | skip)) | ((with_reducible refine And.intro ?_ ?_); (first | rfl | exact Nat.le_of_ble_eq_true rfl | omega | (simp; done))) | ((with_reducible apply k_exe); rfl) | ((with_reducible first | apply k_condT | apply k_aug | apply k_lenO | apply k_tupO | apply k_isi | apply k_is | apply k_isn | apply k_ixT | apply k_ixL); rfl) | ((with_reducible apply k_condF); rfl) | ((with_reducible first | apply k_ixO | apply k_putI); rfl; rfl) | ((with_reducible first | apply k_lenS | apply k_mod | apply k_addS | apply k_mulI | apply k_addT | apply k_rep); (first | omega | (simp; omega) | (with_reducible assumption) | decide))))
        refine text_tree_s 59 one ta (by omega) ?_
        (repeat (first | (with_reducible first | refine k_seq ?_ | refine k_set ?_ | refine k_ret ?_ | refine k_c ?_ | refine k_call ?_ | refine k_aC ?_ | refine k_aN ?_ | refine k_2 ?_ | refine k_1 ?_ | refine k_tOf ?_ | refine k_sIf ?_ | refine k_B ?_ | refine k_tup ?_ | refine k_lst ?_ | refine k_new ?_ | refine k_addI ?_ | refine k_subI ?_ | refine k_eqI ?_ | refine k_neI ?_ | refine k_ltI ?_ | refine k_leI ?_ | refine k_gtI ?_ | refine k_geI ?_ | refine k_eqS ?_ | refine k_neS ?_ | refine k_for ?_ | refine k_forR ?_ | refine k_forG ?_ | refine k_pass ?_ | refine k_ex ?_ | refine k_retN ?_ | refine k_brk ?_ | refine k_cont ?_ | refine k_asg ?_ | refine k_setI ?_ | refine k_sl2 ?_ | refine k_slL ?_ | refine k_slH ?_ | refine k_app ?_ | refine k_ext ?_ | refine k_bk ?_ | refine k_no ?_ | refine k_tNo ?_ | refine k_tYs ?_ | refine k_if ?_ | refine k_gc ?_ | refine k_3B ?_ | refine k_lenT ?_ | refine k_lenL ?_ | refine k_lenC ?_ | refine k_tupT ?_ | refine k_tupL ?_ | refine k_lstL ?_ | refine k_lstC ?_ | refine k_lstT ?_ | refine k_ltS ?_ | refine k_m1 ?_ | refine k_m0 ?_ | refine k_cnt ?_ | refine k_min2 ?_ | refine k_eqB ?_ | refine k_neB ?_ | refine k_slT ?_ | refine k_slL' ?_ | refine k_slC ?_) | ((with_reducible apply k_v); rfl) | ((with_reducible refine k_bnd ?_ ?_); (first | omega | (simp; omega) | skip)) | ((with_reducible refine And.intro ?_ ?_); (first | rfl | exact Nat.le_of_ble_eq_true rfl | omega | (simp; done))) | ((with_reducible apply k_exe); rfl) | ((with_reducible first | apply k_condT | apply k_aug | apply k_lenO | apply k_tupO | apply k_isi | apply k_is | apply k_isn | apply k_ixT | apply k_ixL); rfl) | ((with_reducible apply k_condF); rfl) | ((with_reducible first | apply k_ixO | apply k_putI); rfl; rfl) | ((with_reducible first | apply k_lenS | apply k_mod | apply k_addS | apply k_mulI | apply k_addT | apply k_rep); (first | omega | (simp; omega) | (with_reducible assumption) | decide))))
        refine text_tree_s 59 other tb (by omega) ?_
        (repeat (first | (with_reducible first | refine k_seq ?_ | refine k_set ?_ | refine k_ret ?_ | refine k_c ?_ | refine k_call ?_ | refine k_aC ?_ | refine k_aN ?_ | refine k_2 ?_ | refine k_1 ?_ | refine k_tOf ?_ | refine k_sIf ?_ | refine k_B ?_ | refine k_tup ?_ | refine k_lst ?_ | refine k_new ?_ | refine k_addI ?_ | refine k_subI ?_ | refine k_eqI ?_ | refine k_neI ?_ | refine k_ltI ?_ | refine k_leI ?_ | refine k_gtI ?_ | refine k_geI ?_ | refine k_eqS ?_ | refine k_neS ?_ | refine k_for ?_ | refine k_forR ?_ | refine k_forG ?_ | refine k_pass ?_ | refine k_ex ?_ | refine k_retN ?_ | refine k_brk ?_ | refine k_cont ?_ | refine k_asg ?_ | refine k_setI ?_ | refine k_sl2 ?_ | refine k_slL ?_ | refine k_slH ?_ | refine k_app ?_ | refine k_ext ?_ | refine k_bk ?_ | refine k_no ?_ | refine k_tNo ?_ | refine k_tYs ?_ | refine k_if ?_ | refine k_gc ?_ | refine k_3B ?_ | refine k_lenT ?_ | refine k_lenL ?_ | refine k_lenC ?_ | refine k_tupT ?_ | refine k_tupL ?_ | refine k_lstL ?_ | refine k_lstC ?_ | refine k_lstT ?_ | refine k_ltS ?_ | refine k_m1 ?_ | refine k_m0 ?_ | refine k_cnt ?_ | refine k_min2 ?_ | refine k_eqB ?_ | refine k_neB ?_ | refine k_slT ?_ | refine k_slL' ?_ | refine k_slC ?_) | ((with_reducible apply k_v); rfl) | ((with_reducible refine k_bnd ?_ ?_); (first | omega | (simp; omega) | skip)) | ((with_reducible refine And.intro ?_ ?_); (first | rfl | exact Nat.le_of_ble_eq_true rfl | omega | (simp; done))) | ((with_reducible apply k_exe); rfl) | ((with_reducible first | apply k_condT | apply k_aug | apply k_lenO | apply k_tupO | apply k_isi | apply k_is | apply k_isn | apply k_ixT | apply k_ixL); rfl) | ((with_reducible apply k_condF); rfl) | ((with_reducible first | apply k_ixO | apply k_putI); rfl; rfl) | ((with_reducible first | apply k_lenS | apply k_mod | apply k_addS | apply k_mulI | apply k_addT | apply k_rep); (first | omega | (simp; omega) | (with_reducible assumption) | decide))))
        rw [text_eq]
        refine k_tOB ?_
        (repeat (first | (with_reducible first | refine k_seq ?_ | refine k_set ?_ | refine k_ret ?_ | refine k_c ?_ | refine k_call ?_ | refine k_aC ?_ | refine k_aN ?_ | refine k_2 ?_ | refine k_1 ?_ | refine k_tOf ?_ | refine k_sIf ?_ | refine k_B ?_ | refine k_tup ?_ | refine k_lst ?_ | refine k_new ?_ | refine k_addI ?_ | refine k_subI ?_ | refine k_eqI ?_ | refine k_neI ?_ | refine k_ltI ?_ | refine k_leI ?_ | refine k_gtI ?_ | refine k_geI ?_ | refine k_eqS ?_ | refine k_neS ?_ | refine k_for ?_ | refine k_forR ?_ | refine k_forG ?_ | refine k_pass ?_ | refine k_ex ?_ | refine k_retN ?_ | refine k_brk ?_ | refine k_cont ?_ | refine k_asg ?_ | refine k_setI ?_ | refine k_sl2 ?_ | refine k_slL ?_ | refine k_slH ?_ | refine k_app ?_ | refine k_ext ?_ | refine k_bk ?_ | refine k_no ?_ | refine k_tNo ?_ | refine k_tYs ?_ | refine k_if ?_ | refine k_gc ?_ | refine k_3B ?_ | refine k_lenT ?_ | refine k_lenL ?_ | refine k_lenC ?_ | refine k_tupT ?_ | refine k_tupL ?_ | refine k_lstL ?_ | refine k_lstC ?_ | refine k_lstT ?_ | refine k_ltS ?_ | refine k_m1 ?_ | refine k_m0 ?_ | refine k_cnt ?_ | refine k_min2 ?_ | refine k_eqB ?_ | refine k_neB ?_ | refine k_slT ?_ | refine k_slL' ?_ | refine k_slC ?_) | ((with_reducible apply k_v); rfl) | ((with_reducible refine k_bnd ?_ ?_); (first | omega | (simp; omega) | skip)) | ((with_reducible refine And.intro ?_ ?_); (first | rfl | exact Nat.le_of_ble_eq_true rfl | omega | (simp; done))) | ((with_reducible apply k_exe); rfl) | ((with_reducible first | apply k_condT | apply k_aug | apply k_lenO | apply k_tupO | apply k_isi | apply k_is | apply k_isn | apply k_ixT | apply k_ixL); rfl) | ((with_reducible apply k_condF); rfl) | ((with_reducible first | apply k_ixO | apply k_putI); rfl; rfl) | ((with_reducible first | apply k_lenS | apply k_mod | apply k_addS | apply k_mulI | apply k_addT | apply k_rep); (first | omega | (simp; omega) | (with_reducible assumption) | decide))))
        refine k_eqTr ga.tr gb.tr (by decide) ?_
        (repeat (first | (with_reducible first | refine k_seq ?_ | refine k_set ?_ | refine k_ret ?_ | refine k_c ?_ | refine k_call ?_ | refine k_aC ?_ | refine k_aN ?_ | refine k_2 ?_ | refine k_1 ?_ | refine k_tOf ?_ | refine k_sIf ?_ | refine k_B ?_ | refine k_tup ?_ | refine k_lst ?_ | refine k_new ?_ | refine k_addI ?_ | refine k_subI ?_ | refine k_eqI ?_ | refine k_neI ?_ | refine k_ltI ?_ | refine k_leI ?_ | refine k_gtI ?_ | refine k_geI ?_ | refine k_eqS ?_ | refine k_neS ?_ | refine k_for ?_ | refine k_forR ?_ | refine k_forG ?_ | refine k_pass ?_ | refine k_ex ?_ | refine k_retN ?_ | refine k_brk ?_ | refine k_cont ?_ | refine k_asg ?_ | refine k_setI ?_ | refine k_sl2 ?_ | refine k_slL ?_ | refine k_slH ?_ | refine k_app ?_ | refine k_ext ?_ | refine k_bk ?_ | refine k_no ?_ | refine k_tNo ?_ | refine k_tYs ?_ | refine k_if ?_ | refine k_gc ?_ | refine k_3B ?_ | refine k_lenT ?_ | refine k_lenL ?_ | refine k_lenC ?_ | refine k_tupT ?_ | refine k_tupL ?_ | refine k_lstL ?_ | refine k_lstC ?_ | refine k_lstT ?_ | refine k_ltS ?_ | refine k_m1 ?_ | refine k_m0 ?_ | refine k_cnt ?_ | refine k_min2 ?_ | refine k_eqB ?_ | refine k_neB ?_ | refine k_slT ?_ | refine k_slL' ?_ | refine k_slC ?_) | ((with_reducible apply k_v); rfl) | ((with_reducible refine k_bnd ?_ ?_); (first | omega | (simp; omega) | skip)) | ((with_reducible refine And.intro ?_ ?_); (first | rfl | exact Nat.le_of_ble_eq_true rfl | omega | (simp; done))) | ((with_reducible apply k_exe); rfl) | ((with_reducible first | apply k_condT | apply k_aug | apply k_lenO | apply k_tupO | apply k_isi | apply k_is | apply k_isn | apply k_ixT | apply k_ixL); rfl) | ((with_reducible apply k_condF); rfl) | ((with_reducible first | apply k_ixO | apply k_putI); rfl; rfl) | ((with_reducible first | apply k_lenS | apply k_mod | apply k_addS | apply k_mulI | apply k_addT | apply k_rep); (first | omega | (simp; omega) | (with_reducible assumption) | decide))))
        refine is_ahead_s gb.tr ga.tr (by decide) ?_
        (repeat (first | (with_reducible first | refine k_seq ?_ | refine k_set ?_ | refine k_ret ?_ | refine k_c ?_ | refine k_call ?_ | refine k_aC ?_ | refine k_aN ?_ | refine k_2 ?_ | refine k_1 ?_ | refine k_tOf ?_ | refine k_sIf ?_ | refine k_B ?_ | refine k_tup ?_ | refine k_lst ?_ | refine k_new ?_ | refine k_addI ?_ | refine k_subI ?_ | refine k_eqI ?_ | refine k_neI ?_ | refine k_ltI ?_ | refine k_leI ?_ | refine k_gtI ?_ | refine k_geI ?_ | refine k_eqS ?_ | refine k_neS ?_ | refine k_for ?_ | refine k_forR ?_ | refine k_forG ?_ | refine k_pass ?_ | refine k_ex ?_ | refine k_retN ?_ | refine k_brk ?_ | refine k_cont ?_ | refine k_asg ?_ | refine k_setI ?_ | refine k_sl2 ?_ | refine k_slL ?_ | refine k_slH ?_ | refine k_app ?_ | refine k_ext ?_ | refine k_bk ?_ | refine k_no ?_ | refine k_tNo ?_ | refine k_tYs ?_ | refine k_if ?_ | refine k_gc ?_ | refine k_3B ?_ | refine k_lenT ?_ | refine k_lenL ?_ | refine k_lenC ?_ | refine k_tupT ?_ | refine k_tupL ?_ | refine k_lstL ?_ | refine k_lstC ?_ | refine k_lstT ?_ | refine k_ltS ?_ | refine k_m1 ?_ | refine k_m0 ?_ | refine k_cnt ?_ | refine k_min2 ?_ | refine k_eqB ?_ | refine k_neB ?_ | refine k_slT ?_ | refine k_slL' ?_ | refine k_slC ?_) | ((with_reducible apply k_v); rfl) | ((with_reducible refine k_bnd ?_ ?_); (first | omega | (simp; omega) | skip)) | ((with_reducible refine And.intro ?_ ?_); (first | rfl | exact Nat.le_of_ble_eq_true rfl | omega | (simp; done))) | ((with_reducible apply k_exe); rfl) | ((with_reducible first | apply k_condT | apply k_aug | apply k_lenO | apply k_tupO | apply k_isi | apply k_is | apply k_isn | apply k_ixT | apply k_ixL); rfl) | ((with_reducible apply k_condF); rfl) | ((with_reducible first | apply k_ixO | apply k_putI); rfl; rfl) | ((with_reducible first | apply k_lenS | apply k_mod | apply k_addS | apply k_mulI | apply k_addT | apply k_rep); (first | omega | (simp; omega) | (with_reducible assumption) | decide))))
        have hcnt : gCnt [] (.lst [.bl (tlt one other), .bl (tlt other one), .bl (teq one other)]) (.bl true) = some (.int 1) := by
          rcases tri ga.tr gb.tr with ⟨h1, h2, h3⟩ | ⟨h1, h2, h3⟩ | ⟨h1, h2, h3⟩ <;> rw [h1, h2, h3] <;> rfl
        refine k_opt hcnt ?_
        (repeat (first | (with_reducible first | refine k_seq ?_ | refine k_set ?_ | refine k_ret ?_ | refine k_c ?_ | refine k_call ?_ | refine k_aC ?_ | refine k_aN ?_ | refine k_2 ?_ | refine k_1 ?_ | refine k_tOf ?_ | refine k_sIf ?_ | refine k_B ?_ | refine k_tup ?_ | refine k_lst ?_ | refine k_new ?_ | refine k_addI ?_ | refine k_subI ?_ | refine k_eqI ?_ | refine k_neI ?_ | refine k_ltI ?_ | refine k_leI ?_ | refine k_gtI ?_ | refine k_geI ?_ | refine k_eqS ?_ | refine k_neS ?_ | refine k_for ?_ | refine k_forR ?_ | refine k_forG ?_ | refine k_pass ?_ | refine k_ex ?_ | refine k_retN ?_ | refine k_brk ?_ | refine k_cont ?_ | refine k_asg ?_ | refine k_setI ?_ | refine k_sl2 ?_ | refine k_slL ?_ | refine k_slH ?_ | refine k_app ?_ | refine k_ext ?_ | refine k_bk ?_ | refine k_no ?_ | refine k_tNo ?_ | refine k_tYs ?_ | refine k_if ?_ | refine k_gc ?_ | refine k_3B ?_ | refine k_lenT ?_ | refine k_lenL ?_ | refine k_lenC ?_ | refine k_tupT ?_ | refine k_tupL ?_ | refine k_lstL ?_ | refine k_lstC ?_ | refine k_lstT ?_ | refine k_ltS ?_ | refine k_m1 ?_ | refine k_m0 ?_ | refine k_cnt ?_ | refine k_min2 ?_ | refine k_eqB ?_ | refine k_neB ?_ | refine k_slT ?_ | refine k_slL' ?_ | refine k_slC ?_) | ((with_reducible apply k_v); rfl) | ((with_reducible refine k_bnd ?_ ?_); (first | omega | (simp; omega) | skip)) | ((with_reducible refine And.intro ?_ ?_); (first | rfl | exact Nat.le_of_ble_eq_true rfl | omega | (simp; done))) | ((with_reducible apply k_exe); rfl) | ((with_reducible first | apply k_condT | apply k_aug | apply k_lenO | apply k_tupO | apply k_isi | apply k_is | apply k_isn | apply k_ixT | apply k_ixL); rfl) | ((with_reducible apply k_condF); rfl) | ((with_reducible first | apply k_ixO | apply k_putI); rfl; rfl) | ((with_reducible first | apply k_lenS | apply k_mod | apply k_addS | apply k_mulI | apply k_addT | apply k_rep); (first | omega | (simp; omega) | (with_reducible assumption) | decide))))
        refine k_condF (by simp) ?_
        (repeat (first | (with_reducible first | refine k_seq ?_ | refine k_set ?_ | refine k_ret ?_ | refine k_c ?_ | refine k_call ?_ | refine k_aC ?_ | refine k_aN ?_ | refine k_2 ?_ | refine k_1 ?_ | refine k_tOf ?_ | refine k_sIf ?_ | refine k_B ?_ | refine k_tup ?_ | refine k_lst ?_ | refine k_new ?_ | refine k_addI ?_ | refine k_subI ?_ | refine k_eqI ?_ | refine k_neI ?_ | refine k_ltI ?_ | refine k_leI ?_ | refine k_gtI ?_ | refine k_geI ?_ | refine k_eqS ?_ | refine k_neS ?_ | refine k_for ?_ | refine k_forR ?_ | refine k_forG ?_ | refine k_pass ?_ | refine k_ex ?_ | refine k_retN ?_ | refine k_brk ?_ | refine k_cont ?_ | refine k_asg ?_ | refine k_setI ?_ | refine k_sl2 ?_ | refine k_slL ?_ | refine k_slH ?_ | refine k_app ?_ | refine k_ext ?_ | refine k_bk ?_ | refine k_no ?_ | refine k_tNo ?_ | refine k_tYs ?_ | refine k_if ?_ | refine k_gc ?_ | refine k_3B ?_ | refine k_lenT ?_ | refine k_lenL ?_ | refine k_lenC ?_ | refine k_tupT ?_ | refine k_tupL ?_ | refine k_lstL ?_ | refine k_lstC ?_ | refine k_lstT ?_ | refine k_ltS ?_ | refine k_m1 ?_ | refine k_m0 ?_ | refine k_cnt ?_ | refine k_min2 ?_ | refine k_eqB ?_ | refine k_neB ?_ | refine k_slT ?_ | refine k_slL' ?_ | refine k_slC ?_) | ((with_reducible apply k_v); rfl) | ((with_reducible refine k_bnd ?_ ?_); (first | omega | (simp; omega) | skip)) | ((with_reducible refine And.intro ?_ ?_); (first | rfl | exact Nat.le_of_ble_eq_true rfl | omega | (simp; done))) | ((with_reducible apply k_exe); rfl) | ((with_reducible first | apply k_condT | apply k_aug | apply k_lenO | apply k_tupO | apply k_isi | apply k_is | apply k_isn | apply k_ixT | apply k_ixL); rfl) | ((with_reducible apply k_condF); rfl) | ((with_reducible first | apply k_ixO | apply k_putI); rfl; rfl) | ((with_reducible first | apply k_lenS | apply k_mod | apply k_addS | apply k_mulI | apply k_addT | apply k_rep); (first | omega | (simp; omega) | (with_reducible assumption) | decide))))
        exact ⟨_, _, _, _, _, rfl, rfl⟩
      · rintro _ _ ⟨x5, x6, x7, x8, x9, rfl, rfl⟩
        exact ⟨rfl, _, _, _, _, _, _, rfl, rfl⟩
    · rintro _ _ ⟨x4, x5, x6, x7, x8, x9, rfl, rfl⟩
      refine ⟨rfl, ?_⟩
      (repeat (first | (with_reducible first | refine k_seq ?_ | refine k_set ?_ | refine k_ret ?_ | refine k_c ?_ | refine k_call ?_ | refine k_aC ?_ | refine k_aN ?_ | refine k_2 ?_ | refine k_1 ?_ | refine k_tOf ?_ | refine k_sIf ?_ | refine k_B ?_ | refine k_tup ?_ | refine k_lst ?_ | refine k_new ?_ | refine k_addI ?_ | refine k_subI ?_ | refine k_eqI ?_ | refine k_neI ?_ | refine k_ltI ?_ | refine k_leI ?_ | refine k_gtI ?_ | refine k_geI ?_ | refine k_eqS ?_ | refine k_neS ?_ | refine k_for ?_ | refine k_forR ?_ | refine k_forG ?_ | refine k_pass ?_ | refine k_ex ?_ | refine k_retN ?_ | refine k_brk ?_ | refine k_cont ?_ | refine k_asg ?_ | refine k_setI ?_ | refine k_sl2 ?_ | refine k_slL ?_ | refine k_slH ?_ | refine k_app ?_ | refine k_ext ?_ | refine k_bk ?_ | refine k_no ?_ | refine k_tNo ?_ | refine k_tYs ?_ | refine k_if ?_ | refine k_gc ?_ | refine k_3B ?_ | refine k_lenT ?_ | refine k_lenL ?_ | refine k_lenC ?_ | refine k_tupT ?_ | refine k_tupL ?_ | refine k_lstL ?_ | refine k_lstC ?_ | refine k_lstT ?_ | refine k_ltS ?_ | refine k_m1 ?_ | refine k_m0 ?_ | refine k_cnt ?_ | refine k_min2 ?_ | refine k_eqB ?_ | refine k_neB ?_ | refine k_slT ?_ | refine k_slL' ?_ | refine k_slC ?_) | ((with_reducible apply k_v); rfl) | ((with_reducible refine k_bnd ?_ ?_); (first | omega | (simp; omega) | skip)) | ((with_reducible refine And.intro ?_ ?_); (first | rfl | exact Nat.le_of_ble_eq_true rfl | omega | (simp; done))) | ((with_reducible apply k_exe); rfl) | ((with_reducible first | apply k_condT | apply k_aug | apply k_lenO | apply k_tupO | apply k_isi | apply k_is | apply k_isn | apply k_ixT | apply k_ixL); rfl) | ((with_reducible apply k_condF); rfl) | ((with_reducible first | apply k_ixO | apply k_putI); rfl; rfl) | ((with_reducible first | apply k_lenS | apply k_mod | apply k_addS | apply k_mulI | apply k_addT | apply k_rep); (first | omega | (simp; omega) | (with_reducible assumption) | decide))))
      refine k_tAnB ?_
      (repeat (first | (with_reducible first | refine k_seq ?_ | refine k_set ?_ | refine k_ret ?_ | refine k_c ?_ | refine k_call ?_ | refine k_aC ?_ | refine k_aN ?_ | refine k_2 ?_ | refine k_1 ?_ | refine k_tOf ?_ | refine k_sIf ?_ | refine k_B ?_ | refine k_tup ?_ | refine k_lst ?_ | refine k_new ?_ | refine k_addI ?_ | refine k_subI ?_ | refine k_eqI ?_ | refine k_neI ?_ | refine k_ltI ?_ | refine k_leI ?_ | refine k_gtI ?_ | refine k_geI ?_ | refine k_eqS ?_ | refine k_neS ?_ | refine k_for ?_ | refine k_forR ?_ | refine k_forG ?_ | refine k_pass ?_ | refine k_ex ?_ | refine k_retN ?_ | refine k_brk ?_ | refine k_cont ?_ | refine k_asg ?_ | refine k_setI ?_ | refine k_sl2 ?_ | refine k_slL ?_ | refine k_slH ?_ | refine k_app ?_ | refine k_ext ?_ | refine k_bk ?_ | refine k_no ?_ | refine k_tNo ?_ | refine k_tYs ?_ | refine k_if ?_ | refine k_gc ?_ | refine k_3B ?_ | refine k_lenT ?_ | refine k_lenL ?_ | refine k_lenC ?_ | refine k_tupT ?_ | refine k_tupL ?_ | refine k_lstL ?_ | refine k_lstC ?_ | refine k_lstT ?_ | refine k_ltS ?_ | refine k_m1 ?_ | refine k_m0 ?_ | refine k_cnt ?_ | refine k_min2 ?_ | refine k_eqB ?_ | refine k_neB ?_ | refine k_slT ?_ | refine k_slL' ?_ | refine k_slC ?_) | ((with_reducible apply k_v); rfl) | ((with_reducible refine k_bnd ?_ ?_); (first | omega | (simp; omega) | skip)) | ((with_reducible refine And.intro ?_ ?_); (first | rfl | exact Nat.le_of_ble_eq_true rfl | omega | (simp; done))) | ((with_reducible apply k_exe); rfl) | ((with_reducible first | apply k_condT | apply k_aug | apply k_lenO | apply k_tupO | apply k_isi | apply k_is | apply k_isn | apply k_ixT | apply k_ixL); rfl) | ((with_reducible apply k_condF); rfl) | ((with_reducible first | apply k_ixO | apply k_putI); rfl; rfl) | ((with_reducible first | apply k_lenS | apply k_mod | apply k_addS | apply k_mulI | apply k_addT | apply k_rep); (first | omega | (simp; omega) | (with_reducible assumption) | decide))))
      refine is_ahead_s g0.tr g1.tr (by decide) ?_
      (repeat (first | (with_reducible first | refine k_seq ?_ | refine k_set ?_ | refine k_ret ?_ | refine k_c ?_ | refine k_call ?_ | refine k_aC ?_ | refine k_aN ?_ | refine k_2 ?_ | refine k_1 ?_ | refine k_tOf ?_ | refine k_sIf ?_ | refine k_B ?_ | refine k_tup ?_ | refine k_lst ?_ | refine k_new ?_ | refine k_addI ?_ | refine k_subI ?_ | refine k_eqI ?_ | refine k_neI ?_ | refine k_ltI ?_ | refine k_leI ?_ | refine k_gtI ?_ | refine k_geI ?_ | refine k_eqS ?_ | refine k_neS ?_ | refine k_for ?_ | refine k_forR ?_ | refine k_forG ?_ | refine k_pass ?_ | refine k_ex ?_ | refine k_retN ?_ | refine k_brk ?_ | refine k_cont ?_ | refine k_asg ?_ | refine k_setI ?_ | refine k_sl2 ?_ | refine k_slL ?_ | refine k_slH ?_ | refine k_app ?_ | refine k_ext ?_ | refine k_bk ?_ | refine k_no ?_ | refine k_tNo ?_ | refine k_tYs ?_ | refine k_if ?_ | refine k_gc ?_ | refine k_3B ?_ | refine k_lenT ?_ | refine k_lenL ?_ | refine k_lenC ?_ | refine k_tupT ?_ | refine k_tupL ?_ | refine k_lstL ?_ | refine k_lstC ?_ | refine k_lstT ?_ | refine k_ltS ?_ | refine k_m1 ?_ | refine k_m0 ?_ | refine k_cnt ?_ | refine k_min2 ?_ | refine k_eqB ?_ | refine k_neB ?_ | refine k_slT ?_ | refine k_slL' ?_ | refine k_slC ?_) | ((with_reducible apply k_v); rfl) | ((with_reducible refine k_bnd ?_ ?_); (first | omega | (simp; omega) | skip)) | ((with_reducible refine And.intro ?_ ?_); (first | rfl | exact Nat.le_of_ble_eq_true rfl | omega | (simp; done))) | ((with_reducible apply k_exe); rfl) | ((with_reducible first | apply k_condT | apply k_aug | apply k_lenO | apply k_tupO | apply k_isi | apply k_is | apply k_isn | apply k_ixT | apply k_ixL); rfl) | ((with_reducible apply k_condF); rfl) | ((with_reducible first | apply k_ixO | apply k_putI); rfl; rfl) | ((with_reducible first | apply k_lenS | apply k_mod | apply k_addS | apply k_mulI | apply k_addT | apply k_rep); (first | omega | (simp; omega) | (with_reducible assumption) | decide))))
      refine k_tAnB ?_
      (repeat (first | (with_reducible first | refine k_seq ?_ | refine k_set ?_ | refine k_ret ?_ | refine k_c ?_ | refine k_call ?_ | refine k_aC ?_ | refine k_aN ?_ | refine k_2 ?_ | refine k_1 ?_ | refine k_tOf ?_ | refine k_sIf ?_ | refine k_B ?_ | refine k_tup ?_ | refine k_lst ?_ | refine k_new ?_ | refine k_addI ?_ | refine k_subI ?_ | refine k_eqI ?_ | refine k_neI ?_ | refine k_ltI ?_ | refine k_leI ?_ | refine k_gtI ?_ | refine k_geI ?_ | refine k_eqS ?_ | refine k_neS ?_ | refine k_for ?_ | refine k_forR ?_ | refine k_forG ?_ | refine k_pass ?_ | refine k_ex ?_ | refine k_retN ?_ | refine k_brk ?_ | refine k_cont ?_ | refine k_asg ?_ | refine k_setI ?_ | refine k_sl2 ?_ | refine k_slL ?_ | refine k_slH ?_ | refine k_app ?_ | refine k_ext ?_ | refine k_bk ?_ | refine k_no ?_ | refine k_tNo ?_ | refine k_tYs ?_ | refine k_if ?_ | refine k_gc ?_ | refine k_3B ?_ | refine k_lenT ?_ | refine k_lenL ?_ | refine k_lenC ?_ | refine k_tupT ?_ | refine k_tupL ?_ | refine k_lstL ?_ | refine k_lstC ?_ | refine k_lstT ?_ | refine k_ltS ?_ | refine k_m1 ?_ | refine k_m0 ?_ | refine k_cnt ?_ | refine k_min2 ?_ | refine k_eqB ?_ | refine k_neB ?_ | refine k_slT ?_ | refine k_slL' ?_ | refine k_slC ?_) | ((with_reducible apply k_v); rfl) | ((with_reducible refine k_bnd ?_ ?_); (first | omega | (simp; omega) | skip)) | ((with_reducible refine And.intro ?_ ?_); (first | rfl | exact Nat.le_of_ble_eq_true rfl | omega | (simp; done))) | ((with_reducible apply k_exe); rfl) | ((with_reducible first | apply k_condT | apply k_aug | apply k_lenO | apply k_tupO | apply k_isi | apply k_is | apply k_isn | apply k_ixT | apply k_ixL); rfl) | ((with_reducible apply k_condF); rfl) | ((with_reducible first | apply k_ixO | apply k_putI); rfl; rfl) | ((with_reducible first | apply k_lenS | apply k_mod | apply k_addS | apply k_mulI | apply k_addT | apply k_rep); (first | omega | (simp; omega) | (with_reducible assumption) | decide))))
      refine is_ahead_s g1.tr g2.tr (by decide) ?_
      (repeat (first | (with_reducible first | refine k_seq ?_ | refine k_set ?_ | refine k_ret ?_ | refine k_c ?_ | refine k_call ?_ | refine k_aC ?_ | refine k_aN ?_ | refine k_2 ?_ | refine k_1 ?_ | refine k_tOf ?_ | refine k_sIf ?_ | refine k_B ?_ | refine k_tup ?_ | refine k_lst ?_ | refine k_new ?_ | refine k_addI ?_ | refine k_subI ?_ | refine k_eqI ?_ | refine k_neI ?_ | refine k_ltI ?_ | refine k_leI ?_ | refine k_gtI ?_ | refine k_geI ?_ | refine k_eqS ?_ | refine k_neS ?_ | refine k_for ?_ | refine k_forR ?_ | refine k_forG ?_ | refine k_pass ?_ | refine k_ex ?_ | refine k_retN ?_ | refine k_brk ?_ | refine k_cont ?_ | refine k_asg ?_ | refine k_setI ?_ | refine k_sl2 ?_ | refine k_slL ?_ | refine k_slH ?_ | refine k_app ?_ | refine k_ext ?_ | refine k_bk ?_ | refine k_no ?_ | refine k_tNo ?_ | refine k_tYs ?_ | refine k_if ?_ | refine k_gc ?_ | refine k_3B ?_ | refine k_lenT ?_ | refine k_lenL ?_ | refine k_lenC ?_ | refine k_tupT ?_ | refine k_tupL ?_ | refine k_lstL ?_ | refine k_lstC ?_ | refine k_lstT ?_ | refine k_ltS ?_ | refine k_m1 ?_ | refine k_m0 ?_ | refine k_cnt ?_ | refine k_min2 ?_ | refine k_eqB ?_ | refine k_neB ?_ | refine k_slT ?_ | refine k_slL' ?_ | refine k_slC ?_) | ((with_reducible apply k_v); rfl) | ((with_reducible refine k_bnd ?_ ?_); (first | omega | (simp; omega) | skip)) | ((with_reducible refine And.intro ?_ ?_); (first | rfl | exact Nat.le_of_ble_eq_true rfl | omega | (simp; done))) | ((with_reducible apply k_exe); rfl) | ((with_reducible first | apply k_condT | apply k_aug | apply k_lenO | apply k_tupO | apply k_isi | apply k_is | apply k_isn | apply k_ixT | apply k_ixL); rfl) | ((with_reducible apply k_condF); rfl) | ((with_reducible first | apply k_ixO | apply k_putI); rfl; rfl) | ((with_reducible first | apply k_lenS | apply k_mod | apply k_addS | apply k_mulI | apply k_addT | apply k_rep); (first | omega | (simp; omega) | (with_reducible assumption) | decide))))
      refine is_ahead_s g0.tr g2.tr (by decide) ?_
      (repeat (first | (with_reducible first | refine k_seq ?_ | refine k_set ?_ | refine k_ret ?_ | refine k_c ?_ | refine k_call ?_ | refine k_aC ?_ | refine k_aN ?_ | refine k_2 ?_ | refine k_1 ?_ | refine k_tOf ?_ | refine k_sIf ?_ | refine k_B ?_ | refine k_tup ?_ | refine k_lst ?_ | refine k_new ?_ | refine k_addI ?_ | refine k_subI ?_ | refine k_eqI ?_ | refine k_neI ?_ | refine k_ltI ?_ | refine k_leI ?_ | refine k_gtI ?_ | refine k_geI ?_ | refine k_eqS ?_ | refine k_neS ?_ | refine k_for ?_ | refine k_forR ?_ | refine k_forG ?_ | refine k_pass ?_ | refine k_ex ?_ | refine k_retN ?_ | refine k_brk ?_ | refine k_cont ?_ | refine k_asg ?_ | refine k_setI ?_ | refine k_sl2 ?_ | refine k_slL ?_ | refine k_slH ?_ | refine k_app ?_ | refine k_ext ?_ | refine k_bk ?_ | refine k_no ?_ | refine k_tNo ?_ | refine k_tYs ?_ | refine k_if ?_ | refine k_gc ?_ | refine k_3B ?_ | refine k_lenT ?_ | refine k_lenL ?_ | refine k_lenC ?_ | refine k_tupT ?_ | refine k_tupL ?_ | refine k_lstL ?_ | refine k_lstC ?_ | refine k_lstT ?_ | refine k_ltS ?_ | refine k_m1 ?_ | refine k_m0 ?_ | refine k_cnt ?_ | refine k_min2 ?_ | refine k_eqB ?_ | refine k_neB ?_ | refine k_slT ?_ | refine k_slL' ?_ | refine k_slC ?_) | ((with_reducible apply k_v); rfl) | ((with_reducible refine k_bnd ?_ ?_); (first | omega | (simp; omega) | skip)) | ((with_reducible refine And.intro ?_ ?_); (first | rfl | exact Nat.le_of_ble_eq_true rfl | omega | (simp; done))) | ((with_reducible apply k_exe); rfl) | ((with_reducible first | apply k_condT | apply k_aug | apply k_lenO | apply k_tupO | apply k_isi | apply k_is | apply k_isn | apply k_ixT | apply k_ixL); rfl) | ((with_reducible apply k_condF); rfl) | ((with_reducible first | apply k_ixO | apply k_putI); rfl; rfl) | ((with_reducible first | apply k_lenS | apply k_mod | apply k_addS | apply k_mulI | apply k_addT | apply k_rep); (first | omega | (simp; omega) | (with_reducible assumption) | decide))))
      refine k_condF ?_ ?_
      · cases h1 : tlt t0 t1 with
        | false => rfl
        | true =>
          cases h2 : tlt t1 t2 with
          | false => rfl
          | true => rw [tlt_trans h1 h2]; rfl
      (repeat (first | (with_reducible first | refine k_seq ?_ | refine k_set ?_ | refine k_ret ?_ | refine k_c ?_ | refine k_call ?_ | refine k_aC ?_ | refine k_aN ?_ | refine k_2 ?_ | refine k_1 ?_ | refine k_tOf ?_ | refine k_sIf ?_ | refine k_B ?_ | refine k_tup ?_ | refine k_lst ?_ | refine k_new ?_ | refine k_addI ?_ | refine k_subI ?_ | refine k_eqI ?_ | refine k_neI ?_ | refine k_ltI ?_ | refine k_leI ?_ | refine k_gtI ?_ | refine k_geI ?_ | refine k_eqS ?_ | refine k_neS ?_ | refine k_for ?_ | refine k_forR ?_ | refine k_forG ?_ | refine k_pass ?_ | refine k_ex ?_ | refine k_retN ?_ | refine k_brk ?_ | refine k_cont ?_ | refine k_asg ?_ | refine k_setI ?_ | refine k_sl2 ?_ | refine k_slL ?_ | refine k_slH ?_ | refine k_app ?_ | refine k_ext ?_ | refine k_bk ?_ | refine k_no ?_ | refine k_tNo ?_ | refine k_tYs ?_ | refine k_if ?_ | refine k_gc ?_ | refine k_3B ?_ | refine k_lenT ?_ | refine k_lenL ?_ | refine k_lenC ?_ | refine k_tupT ?_ | refine k_tupL ?_ | refine k_lstL ?_ | refine k_lstC ?_ | refine k_lstT ?_ | refine k_ltS ?_ | refine k_m1 ?_ | refine k_m0 ?_ | refine k_cnt ?_ | refine k_min2 ?_ | refine k_eqB ?_ | refine k_neB ?_ | refine k_slT ?_ | refine k_slL' ?_ | refine k_slC ?_) | ((with_reducible apply k_v); rfl) | ((with_reducible refine k_bnd ?_ ?_); (first | omega | (simp; omega) | skip)) | ((with_reducible refine And.intro ?_ ?_); (first | rfl | exact Nat.le_of_ble_eq_true rfl | omega | (simp; done))) | ((with_reducible apply k_exe); rfl) | ((with_reducible first | apply k_condT | apply k_aug | apply k_lenO | apply k_tupO | apply k_isi | apply k_is | apply k_isn | apply k_ixT | apply k_ixL); rfl) | ((with_reducible apply k_condF); rfl) | ((with_reducible first | apply k_ixO | apply k_putI); rfl; rfl) | ((with_reducible first | apply k_lenS | apply k_mod | apply k_addS | apply k_mulI | apply k_addT | apply k_rep); (first | omega | (simp; omega) | (with_reducible assumption) | decide))))
      exact ⟨_, _, _, _, _, _, _, _, rfl, rfl⟩
  · rintro _ _ ⟨x2, x3, x4, x5, x6, x7, x8, x9, rfl, rfl⟩
    refine ⟨True.intro, ?_⟩
    (repeat (first | (with_reducible first | refine k_seq ?_ | refine k_set ?_ | refine k_ret ?_ | refine k_c ?_ | refine k_call ?_ | refine k_aC ?_ | refine k_aN ?_ | refine k_2 ?_ | refine k_1 ?_ | refine k_tOf ?_ | refine k_sIf ?_ | refine k_B ?_ | refine k_tup ?_ | refine k_lst ?_ | refine k_new ?_ | refine k_addI ?_ | refine k_subI ?_ | refine k_eqI ?_ | refine k_neI ?_ | refine k_ltI ?_ | refine k_leI ?_ | refine k_gtI ?_ | refine k_geI ?_ | refine k_eqS ?_ | refine k_neS ?_ | refine k_for ?_ | refine k_forR ?_ | refine k_forG ?_ | refine k_pass ?_ | refine k_ex ?_ | refine k_retN ?_ | refine k_brk ?_ | refine k_cont ?_ | refine k_asg ?_ | refine k_setI ?_ | refine k_sl2 ?_ | refine k_slL ?_ | refine k_slH ?_ | refine k_app ?_ | refine k_ext ?_ | refine k_bk ?_ | refine k_no ?_ | refine k_tNo ?_ | refine k_tYs ?_ | refine k_if ?_ | refine k_gc ?_ | refine k_3B ?_ | refine k_lenT ?_ | refine k_lenL ?_ | refine k_lenC ?_ | refine k_tupT ?_ | refine k_tupL ?_ | refine k_lstL ?_ | refine k_lstC ?_ | refine k_lstT ?_ | refine k_ltS ?_ | refine k_m1 ?_ | refine k_m0 ?_ | refine k_cnt ?_ | refine k_min2 ?_ | refine k_eqB ?_ | refine k_neB ?_ | refine k_slT ?_ | refine k_slL' ?_ | refine k_slC ?_) | ((with_reducible apply k_v); rfl) | ((with_reducible refine k_bnd ?_ ?_); (first | omega | (simp; omega) | skip)) | ((with_reducible refine And.intro ?_ ?_); (first | rfl | exact Nat.le_of_ble_eq_true rfl | omega | (simp; done))) | ((with_reducible apply k_exe); rfl) | ((with_reducible first | apply k_condT | apply k_aug | apply k_lenO | apply k_tupO | apply k_isi | apply k_is | apply k_isn | apply k_ixT | apply k_ixL); rfl) | ((with_reducible apply k_condF); rfl) | ((with_reducible first | apply k_ixO | apply k_putI); rfl; rfl) | ((with_reducible first | apply k_lenS | apply k_mod | apply k_addS | apply k_mulI | apply k_addT | apply k_rep); (first | omega | (simp; omega) | (with_reducible assumption) | decide))))
    rfl
end Law

namespace Law
open PySem PySem.Spec PyProof.Rows L2 DL
theorem all_mk {w : World} {K : PySem.W.Frag} {h : Heap} {mg : Str → Option Value} {fa f_tree_text f_tree_key f_is_ahead f__law_pot f__law_take f__law_signs f__law_text f__law_tree f__law_measure f__law_is_tree f__law_good_tree f__law_ahead f__law_like f__law_three f_law : Addr} (X : K.In h) (G : h.Ns mainGlobals mg) (hfa : mg "law" = some (.ref fa))
    {od_tree_text an_tree_text : Option Addr} {sl_tree_text : Array (Option Value)} {oc_tree_text kV_tree_text dc_tree_text pm_tree_text cd_tree_text ct_tree_text : Value} {od_tree_key an_tree_key : Option Addr} {sl_tree_key : Array (Option Value)} {oc_tree_key kV_tree_key dc_tree_key pm_tree_key cd_tree_key ct_tree_key : Value} {od_is_ahead an_is_ahead : Option Addr} {sl_is_ahead : Array (Option Value)} {oc_is_ahead kV_is_ahead dc_is_ahead pm_is_ahead cd_is_ahead ct_is_ahead : Value} {od__law_pot an__law_pot : Option Addr} {sl__law_pot : Array (Option Value)} {oc__law_pot kV__law_pot dc__law_pot pm__law_pot cd__law_pot ct__law_pot : Value} {od__law_take an__law_take : Option Addr} {sl__law_take : Array (Option Value)} {oc__law_take kV__law_take dc__law_take pm__law_take cd__law_take ct__law_take : Value} {od__law_signs an__law_signs : Option Addr} {sl__law_signs : Array (Option Value)} {oc__law_signs kV__law_signs dc__law_signs pm__law_signs cd__law_signs ct__law_signs : Value} {od__law_text an__law_text : Option Addr} {sl__law_text : Array (Option Value)} {oc__law_text kV__law_text dc__law_text pm__law_text cd__law_text ct__law_text : Value} {od__law_tree an__law_tree : Option Addr} {sl__law_tree : Array (Option Value)} {oc__law_tree kV__law_tree dc__law_tree pm__law_tree cd__law_tree ct__law_tree : Value} {od__law_measure an__law_measure : Option Addr} {sl__law_measure : Array (Option Value)} {oc__law_measure kV__law_measure dc__law_measure pm__law_measure cd__law_measure ct__law_measure : Value} {od__law_is_tree an__law_is_tree : Option Addr} {sl__law_is_tree : Array (Option Value)} {oc__law_is_tree kV__law_is_tree dc__law_is_tree pm__law_is_tree cd__law_is_tree ct__law_is_tree : Value} {od__law_good_tree an__law_good_tree : Option Addr} {sl__law_good_tree : Array (Option Value)} {oc__law_good_tree kV__law_good_tree dc__law_good_tree pm__law_good_tree cd__law_good_tree ct__law_good_tree : Value} {od__law_ahead an__law_ahead : Option Addr} {sl__law_ahead : Array (Option Value)} {oc__law_ahead kV__law_ahead dc__law_ahead pm__law_ahead cd__law_ahead ct__law_ahead : Value} {od__law_like an__law_like : Option Addr} {sl__law_like : Array (Option Value)} {oc__law_like kV__law_like dc__law_like pm__law_like cd__law_like ct__law_like : Value} {od__law_three an__law_three : Option Addr} {sl__law_three : Array (Option Value)} {oc__law_three kV__law_three dc__law_three pm__law_three cd__law_three ct__law_three : Value} {od_law an_law : Option Addr} {sl_law : Array (Option Value)} {oc_law kV_law dc_law pm_law cd_law ct_law : Value}
    (a_tree_text : PySem.W.nsIn K mainGlobals "tree_text" = some (some (.ref f_tree_text))) (l_tree_text : K.lookup f_tree_text = some ⟨oc_tree_text, od_tree_text, .func (PySem.W.fnOf "tree_text" "tree_text" (defArgs s_tree_text) (defBody s_tree_text) (defScope s_tree_text) .none kV_tree_text dc_tree_text pm_tree_text an_tree_text cd_tree_text ct_tree_text), sl_tree_text⟩) (c_tree_text : PySem.W.codeIn K cd_tree_text "tree_text" = true) (k_tree_text : PySem.W.keepIn K (.ref f_tree_text) = true)
    (a_tree_key : PySem.W.nsIn K mainGlobals "tree_key" = some (some (.ref f_tree_key))) (l_tree_key : K.lookup f_tree_key = some ⟨oc_tree_key, od_tree_key, .func (PySem.W.fnOf "tree_key" "tree_key" (defArgs s_tree_key) (defBody s_tree_key) (defScope s_tree_key) .none kV_tree_key dc_tree_key pm_tree_key an_tree_key cd_tree_key ct_tree_key), sl_tree_key⟩) (c_tree_key : PySem.W.codeIn K cd_tree_key "tree_key" = true) (k_tree_key : PySem.W.keepIn K (.ref f_tree_key) = true)
    (a_is_ahead : PySem.W.nsIn K mainGlobals "is_ahead" = some (some (.ref f_is_ahead))) (l_is_ahead : K.lookup f_is_ahead = some ⟨oc_is_ahead, od_is_ahead, .func (PySem.W.fnOf "is_ahead" "is_ahead" (defArgs s_is_ahead) (defBody s_is_ahead) (defScope s_is_ahead) .none kV_is_ahead dc_is_ahead pm_is_ahead an_is_ahead cd_is_ahead ct_is_ahead), sl_is_ahead⟩) (c_is_ahead : PySem.W.codeIn K cd_is_ahead "is_ahead" = true) (k_is_ahead : PySem.W.keepIn K (.ref f_is_ahead) = true)
    (a__law_pot : PySem.W.nsIn K mainGlobals "_law_pot" = some (some (.ref f__law_pot))) (l__law_pot : K.lookup f__law_pot = some ⟨oc__law_pot, od__law_pot, .func (PySem.W.fnOf "_law_pot" "_law_pot" (defArgs s__law_pot) (defBody s__law_pot) (defScope s__law_pot) .none kV__law_pot dc__law_pot pm__law_pot an__law_pot cd__law_pot ct__law_pot), sl__law_pot⟩) (c__law_pot : PySem.W.codeIn K cd__law_pot "_law_pot" = true) (k__law_pot : PySem.W.keepIn K (.ref f__law_pot) = true)
    (a__law_take : PySem.W.nsIn K mainGlobals "_law_take" = some (some (.ref f__law_take))) (l__law_take : K.lookup f__law_take = some ⟨oc__law_take, od__law_take, .func (PySem.W.fnOf "_law_take" "_law_take" (defArgs s__law_take) (defBody s__law_take) (defScope s__law_take) .none kV__law_take dc__law_take pm__law_take an__law_take cd__law_take ct__law_take), sl__law_take⟩) (c__law_take : PySem.W.codeIn K cd__law_take "_law_take" = true) (k__law_take : PySem.W.keepIn K (.ref f__law_take) = true)
    (a__law_signs : PySem.W.nsIn K mainGlobals "_law_signs" = some (some (.ref f__law_signs))) (l__law_signs : K.lookup f__law_signs = some ⟨oc__law_signs, od__law_signs, .func (PySem.W.fnOf "_law_signs" "_law_signs" (defArgs s__law_signs) (defBody s__law_signs) (defScope s__law_signs) .none kV__law_signs dc__law_signs pm__law_signs an__law_signs cd__law_signs ct__law_signs), sl__law_signs⟩) (c__law_signs : PySem.W.codeIn K cd__law_signs "_law_signs" = true) (k__law_signs : PySem.W.keepIn K (.ref f__law_signs) = true)
    (a__law_text : PySem.W.nsIn K mainGlobals "_law_text" = some (some (.ref f__law_text))) (l__law_text : K.lookup f__law_text = some ⟨oc__law_text, od__law_text, .func (PySem.W.fnOf "_law_text" "_law_text" (defArgs s__law_text) (defBody s__law_text) (defScope s__law_text) .none kV__law_text dc__law_text pm__law_text an__law_text cd__law_text ct__law_text), sl__law_text⟩) (c__law_text : PySem.W.codeIn K cd__law_text "_law_text" = true) (k__law_text : PySem.W.keepIn K (.ref f__law_text) = true)
    (a__law_tree : PySem.W.nsIn K mainGlobals "_law_tree" = some (some (.ref f__law_tree))) (l__law_tree : K.lookup f__law_tree = some ⟨oc__law_tree, od__law_tree, .func (PySem.W.fnOf "_law_tree" "_law_tree" (defArgs s__law_tree) (defBody s__law_tree) (defScope s__law_tree) .none kV__law_tree dc__law_tree pm__law_tree an__law_tree cd__law_tree ct__law_tree), sl__law_tree⟩) (c__law_tree : PySem.W.codeIn K cd__law_tree "_law_tree" = true) (k__law_tree : PySem.W.keepIn K (.ref f__law_tree) = true)
    (a__law_measure : PySem.W.nsIn K mainGlobals "_law_measure" = some (some (.ref f__law_measure))) (l__law_measure : K.lookup f__law_measure = some ⟨oc__law_measure, od__law_measure, .func (PySem.W.fnOf "_law_measure" "_law_measure" (defArgs s__law_measure) (defBody s__law_measure) (defScope s__law_measure) .none kV__law_measure dc__law_measure pm__law_measure an__law_measure cd__law_measure ct__law_measure), sl__law_measure⟩) (c__law_measure : PySem.W.codeIn K cd__law_measure "_law_measure" = true) (k__law_measure : PySem.W.keepIn K (.ref f__law_measure) = true)
    (a__law_is_tree : PySem.W.nsIn K mainGlobals "_law_is_tree" = some (some (.ref f__law_is_tree))) (l__law_is_tree : K.lookup f__law_is_tree = some ⟨oc__law_is_tree, od__law_is_tree, .func (PySem.W.fnOf "_law_is_tree" "_law_is_tree" (defArgs s__law_is_tree) (defBody s__law_is_tree) (defScope s__law_is_tree) .none kV__law_is_tree dc__law_is_tree pm__law_is_tree an__law_is_tree cd__law_is_tree ct__law_is_tree), sl__law_is_tree⟩) (c__law_is_tree : PySem.W.codeIn K cd__law_is_tree "_law_is_tree" = true) (k__law_is_tree : PySem.W.keepIn K (.ref f__law_is_tree) = true)
    (a__law_good_tree : PySem.W.nsIn K mainGlobals "_law_good_tree" = some (some (.ref f__law_good_tree))) (l__law_good_tree : K.lookup f__law_good_tree = some ⟨oc__law_good_tree, od__law_good_tree, .func (PySem.W.fnOf "_law_good_tree" "_law_good_tree" (defArgs s__law_good_tree) (defBody s__law_good_tree) (defScope s__law_good_tree) .none kV__law_good_tree dc__law_good_tree pm__law_good_tree an__law_good_tree cd__law_good_tree ct__law_good_tree), sl__law_good_tree⟩) (c__law_good_tree : PySem.W.codeIn K cd__law_good_tree "_law_good_tree" = true) (k__law_good_tree : PySem.W.keepIn K (.ref f__law_good_tree) = true)
    (a__law_ahead : PySem.W.nsIn K mainGlobals "_law_ahead" = some (some (.ref f__law_ahead))) (l__law_ahead : K.lookup f__law_ahead = some ⟨oc__law_ahead, od__law_ahead, .func (PySem.W.fnOf "_law_ahead" "_law_ahead" (defArgs s__law_ahead) (defBody s__law_ahead) (defScope s__law_ahead) .none kV__law_ahead dc__law_ahead pm__law_ahead an__law_ahead cd__law_ahead ct__law_ahead), sl__law_ahead⟩) (c__law_ahead : PySem.W.codeIn K cd__law_ahead "_law_ahead" = true) (k__law_ahead : PySem.W.keepIn K (.ref f__law_ahead) = true)
    (a__law_like : PySem.W.nsIn K mainGlobals "_law_like" = some (some (.ref f__law_like))) (l__law_like : K.lookup f__law_like = some ⟨oc__law_like, od__law_like, .func (PySem.W.fnOf "_law_like" "_law_like" (defArgs s__law_like) (defBody s__law_like) (defScope s__law_like) .none kV__law_like dc__law_like pm__law_like an__law_like cd__law_like ct__law_like), sl__law_like⟩) (c__law_like : PySem.W.codeIn K cd__law_like "_law_like" = true) (k__law_like : PySem.W.keepIn K (.ref f__law_like) = true)
    (a__law_three : PySem.W.nsIn K mainGlobals "_law_three" = some (some (.ref f__law_three))) (l__law_three : K.lookup f__law_three = some ⟨oc__law_three, od__law_three, .func (PySem.W.fnOf "_law_three" "_law_three" (defArgs s__law_three) (defBody s__law_three) (defScope s__law_three) .none kV__law_three dc__law_three pm__law_three an__law_three cd__law_three ct__law_three), sl__law_three⟩) (c__law_three : PySem.W.codeIn K cd__law_three "_law_three" = true) (k__law_three : PySem.W.keepIn K (.ref f__law_three) = true)
    (a_law : PySem.W.nsIn K mainGlobals "law" = some (some (.ref f_law))) (l_law : K.lookup f_law = some ⟨oc_law, od_law, .func (PySem.W.fnOf "law" "law" (defArgs s_law) (defBody s_law) (defScope s_law) .none kV_law dc_law pm_law an_law cd_law ct_law), sl_law⟩) (c_law : PySem.W.codeIn K cd_law "law" = true) (k_law : PySem.W.keepIn K (.ref f_law) = true)
    (z_abs : PySem.W.nsIn K mainGlobals "abs" = some none)
    (z_all : PySem.W.nsIn K mainGlobals "all" = some none)
    (z_bool : PySem.W.nsIn K mainGlobals "bool" = some none)
    (z_isinstance : PySem.W.nsIn K mainGlobals "isinstance" = some none)
    (z_len : PySem.W.nsIn K mainGlobals "len" = some none)
    (z_list : PySem.W.nsIn K mainGlobals "list" = some none)
    (z_max : PySem.W.nsIn K mainGlobals "max" = some none)
    (z_min : PySem.W.nsIn K mainGlobals "min" = some none)
    (z_range : PySem.W.nsIn K mainGlobals "range" = some none)
    (z_str : PySem.W.nsIn K mainGlobals "str" = some none)
    (z_sum : PySem.W.nsIn K mainGlobals "sum" = some none)
    (z_tuple : PySem.W.nsIn K mainGlobals "tuple" = some none)
    (hm : ∀ ns : List Int, ns.length ≤ 63 → ∃ S, m_law [.scr (ns.map D.int)] [] = .ok (.bl true) S) :
    ∃ fd : FuncData, (∀ (s : Shared) (v : Value), BindsTo s fd ⟨[v], []⟩ [("script", v)]) ∧ ∀ base : Heap, K.In base → base.Ns mainGlobals mg → FnOk PySem.Challenge.pw_askwright_k04_whole_trees_in_order w K mg base CX0 127 fa fd ["script"] (spLaw K 63) := by
  have e := hfa.symm.trans (PySem.W.mg_of X G a_law)
  cases e
  have T : Txt mg := { n_abs := PySem.W.mg_none_of X G z_abs, n_all := PySem.W.mg_none_of X G z_all, n_bool := PySem.W.mg_none_of X G z_bool, n_isinstance := PySem.W.mg_none_of X G z_isinstance, n_len := PySem.W.mg_none_of X G z_len, n_list := PySem.W.mg_none_of X G z_list, n_max := PySem.W.mg_none_of X G z_max, n_min := PySem.W.mg_none_of X G z_min, n_range := PySem.W.mg_none_of X G z_range, n_str := PySem.W.mg_none_of X G z_str, n_sum := PySem.W.mg_none_of X G z_sum, n_tuple := PySem.W.mg_none_of X G z_tuple }
  have U_tree_text := fun_mk (st := s_tree_text) l_tree_text c_tree_text k_tree_text
  have U_tree_key := fun_mk (st := s_tree_key) l_tree_key c_tree_key k_tree_key
  have U_is_ahead := fun_mk (st := s_is_ahead) l_is_ahead c_is_ahead k_is_ahead
  have U__law_pot := fun_mk (st := s__law_pot) l__law_pot c__law_pot k__law_pot
  have U__law_take := fun_mk (st := s__law_take) l__law_take c__law_take k__law_take
  have U__law_signs := fun_mk (st := s__law_signs) l__law_signs c__law_signs k__law_signs
  have U__law_text := fun_mk (st := s__law_text) l__law_text c__law_text k__law_text
  have U__law_tree := fun_mk (st := s__law_tree) l__law_tree c__law_tree k__law_tree
  have U__law_measure := fun_mk (st := s__law_measure) l__law_measure c__law_measure k__law_measure
  have U__law_is_tree := fun_mk (st := s__law_is_tree) l__law_is_tree c__law_is_tree k__law_is_tree
  have U__law_good_tree := fun_mk (st := s__law_good_tree) l__law_good_tree c__law_good_tree k__law_good_tree
  have U__law_ahead := fun_mk (st := s__law_ahead) l__law_ahead c__law_ahead k__law_ahead
  have U__law_like := fun_mk (st := s__law_like) l__law_like c__law_like k__law_like
  have U__law_three := fun_mk (st := s__law_three) l__law_three c__law_three k__law_three
  have U_law := fun_mk (st := s_law) l_law c_law k_law
  refine ⟨PySem.W.fnOf "law" "law" (defArgs s_law) (defBody s_law) (defScope s_law) .none kV_law dc_law pm_law an_law cd_law ct_law, fun s v => .of_eq rfl, fun base _ _ => ?_⟩
  have FF_tree_text : ∀ n : Nat, FD PySem.Challenge.pw_askwright_k04_whole_trees_in_order w K mg base (fun _ => 0) (1 + n) "tree_text" 1 (m_tree_text n) := by
    intro n
    induction n with
    | zero => exact (fd_bad U_tree_text (PySem.W.mg_of X G a_tree_text) k_tree_text (U_tree_text.binds (ps := ["tree"]) fun _ _ _ _ _ _ us hl => match us, hl with | [_], _ => rfl) sc_tree_text : FD PySem.Challenge.pw_askwright_k04_whole_trees_in_order w K mg base (fun _ => 0) (0 + 1) "tree_text" 1 (fun _ _ => .bad))
    | succ n ih => exact ok_tree_text T  n ih U_tree_text (PySem.W.mg_of X G a_tree_text) k_tree_text (U_tree_text.binds (ps := ["tree"]) fun _ _ _ _ _ _ us hl => match us, hl with | [_], _ => rfl)
  have F_tree_text : FD PySem.Challenge.pw_askwright_k04_whole_trees_in_order w K mg base (fun _ => 0) 61 "tree_text" 1 (m_tree_text 60) := (FF_tree_text 60)
  have FF_tree_key : ∀ n : Nat, FD PySem.Challenge.pw_askwright_k04_whole_trees_in_order w K mg base (fun _ => 0) (1 + n) "tree_key" 1 (m_tree_key n) := by
    intro n
    induction n with
    | zero => exact (fd_bad U_tree_key (PySem.W.mg_of X G a_tree_key) k_tree_key (U_tree_key.binds (ps := ["tree"]) fun _ _ _ _ _ _ us hl => match us, hl with | [_], _ => rfl) sc_tree_key : FD PySem.Challenge.pw_askwright_k04_whole_trees_in_order w K mg base (fun _ => 0) (0 + 1) "tree_key" 1 (fun _ _ => .bad))
    | succ n ih => exact ok_tree_key T  n ih U_tree_key (PySem.W.mg_of X G a_tree_key) k_tree_key (U_tree_key.binds (ps := ["tree"]) fun _ _ _ _ _ _ us hl => match us, hl with | [_], _ => rfl)
  have F_tree_key : FD PySem.Challenge.pw_askwright_k04_whole_trees_in_order w K mg base (fun _ => 0) 61 "tree_key" 1 (m_tree_key 60) := (FF_tree_key 60)
  have F_is_ahead : FD PySem.Challenge.pw_askwright_k04_whole_trees_in_order w K mg base (fun _ => 0) 62 "is_ahead" 2 m_is_ahead := ok_is_ahead T F_tree_key U_is_ahead (PySem.W.mg_of X G a_is_ahead) k_is_ahead (U_is_ahead.binds (ps := ["one", "other"]) fun _ _ _ _ _ _ us hl => match us, hl with | [_, _], _ => rfl)
  have F__law_pot : FD PySem.Challenge.pw_askwright_k04_whole_trees_in_order w K mg base (fun _ => 0) 1 "_law_pot" 2 m__law_pot := ok__law_pot T  U__law_pot (PySem.W.mg_of X G a__law_pot) k__law_pot (U__law_pot.binds (ps := ["cell", "salt"]) fun _ _ _ _ _ _ us hl => match us, hl with | [_, _], _ => rfl)
  have F__law_take : FD PySem.Challenge.pw_askwright_k04_whole_trees_in_order w K mg base (fun _ => 0) 1 "_law_take" 2 m__law_take := ok__law_take T  U__law_take (PySem.W.mg_of X G a__law_take) k__law_take (U__law_take.binds (ps := ["pot", "many"]) fun _ _ _ _ _ _ us hl => match us, hl with | [_, _], _ => rfl)
  have F__law_signs : FD PySem.Challenge.pw_askwright_k04_whole_trees_in_order w K mg base (fun _ => 0) 1 "_law_signs" 0 m__law_signs := ok__law_signs T  U__law_signs (PySem.W.mg_of X G a__law_signs) k__law_signs (U__law_signs.binds (ps := []) fun _ _ _ _ _ _ us hl => match us, hl with | [], _ => rfl)
  have F__law_text : FD PySem.Challenge.pw_askwright_k04_whole_trees_in_order w K mg base (fun _ => 0) 2 "_law_text" 1 m__law_text := ok__law_text T F__law_signs F__law_take U__law_text (PySem.W.mg_of X G a__law_text) k__law_text (U__law_text.binds (ps := ["pot"]) fun _ _ _ _ _ _ us hl => match us, hl with | [_], _ => rfl)
  have FF__law_tree : ∀ n : Nat, FD PySem.Challenge.pw_askwright_k04_whole_trees_in_order w K mg base (fun _ => 0) (3 + n) "_law_tree" 2 (m__law_tree n) := by
    intro n
    induction n with
    | zero => exact (fd_bad U__law_tree (PySem.W.mg_of X G a__law_tree) k__law_tree (U__law_tree.binds (ps := ["pot", "deep"]) fun _ _ _ _ _ _ us hl => match us, hl with | [_, _], _ => rfl) sc__law_tree : FD PySem.Challenge.pw_askwright_k04_whole_trees_in_order w K mg base (fun _ => 0) (2 + 1) "_law_tree" 2 (fun _ _ => .bad))
    | succ n ih => exact ok__law_tree T F__law_take F__law_text n ih U__law_tree (PySem.W.mg_of X G a__law_tree) k__law_tree (U__law_tree.binds (ps := ["pot", "deep"]) fun _ _ _ _ _ _ us hl => match us, hl with | [_, _], _ => rfl)
  have F__law_tree : FD PySem.Challenge.pw_askwright_k04_whole_trees_in_order w K mg base (fun _ => 0) 63 "_law_tree" 2 (m__law_tree 60) := (FF__law_tree 60)
  have FF__law_measure : ∀ n : Nat, FD PySem.Challenge.pw_askwright_k04_whole_trees_in_order w K mg base (fun _ => 0) (2 + n) "_law_measure" 1 (m__law_measure n) := by
    intro n
    induction n with
    | zero => exact (fd_bad U__law_measure (PySem.W.mg_of X G a__law_measure) k__law_measure (U__law_measure.binds (ps := ["value"]) fun _ _ _ _ _ _ us hl => match us, hl with | [_], _ => rfl) sc__law_measure : FD PySem.Challenge.pw_askwright_k04_whole_trees_in_order w K mg base (fun _ => 0) (1 + 1) "_law_measure" 1 (fun _ _ => .bad))
    | succ n ih => exact ok__law_measure T F__law_signs n ih U__law_measure (PySem.W.mg_of X G a__law_measure) k__law_measure (U__law_measure.binds (ps := ["value"]) fun _ _ _ _ _ _ us hl => match us, hl with | [_], _ => rfl)
  have F__law_measure : FD PySem.Challenge.pw_askwright_k04_whole_trees_in_order w K mg base (fun _ => 0) 62 "_law_measure" 1 (m__law_measure 60) := (FF__law_measure 60)
  have F__law_is_tree : FD PySem.Challenge.pw_askwright_k04_whole_trees_in_order w K mg base (fun _ => 0) 63 "_law_is_tree" 1 m__law_is_tree := ok__law_is_tree T F__law_measure U__law_is_tree (PySem.W.mg_of X G a__law_is_tree) k__law_is_tree (U__law_is_tree.binds (ps := ["value"]) fun _ _ _ _ _ _ us hl => match us, hl with | [_], _ => rfl)
  have F__law_good_tree : FD PySem.Challenge.pw_askwright_k04_whole_trees_in_order w K mg base (fun _ => 0) 64 "_law_good_tree" 1 m__law_good_tree := ok__law_good_tree T F__law_tree F__law_is_tree F__law_take U__law_good_tree (PySem.W.mg_of X G a__law_good_tree) k__law_good_tree (U__law_good_tree.binds (ps := ["pot"]) fun _ _ _ _ _ _ us hl => match us, hl with | [_], _ => rfl)
  have FF__law_ahead : ∀ n : Nat, FD PySem.Challenge.pw_askwright_k04_whole_trees_in_order w K mg base (fun _ => 0) (1 + n) "_law_ahead" 2 (m__law_ahead n) := by
    intro n
    induction n with
    | zero => exact (fd_bad U__law_ahead (PySem.W.mg_of X G a__law_ahead) k__law_ahead (U__law_ahead.binds (ps := ["one", "other"]) fun _ _ _ _ _ _ us hl => match us, hl with | [_, _], _ => rfl) sc__law_ahead : FD PySem.Challenge.pw_askwright_k04_whole_trees_in_order w K mg base (fun _ => 0) (0 + 1) "_law_ahead" 2 (fun _ _ => .bad))
    | succ n ih => exact ok__law_ahead T  n ih U__law_ahead (PySem.W.mg_of X G a__law_ahead) k__law_ahead (U__law_ahead.binds (ps := ["one", "other"]) fun _ _ _ _ _ _ us hl => match us, hl with | [_, _], _ => rfl)
  have F__law_ahead : FD PySem.Challenge.pw_askwright_k04_whole_trees_in_order w K mg base (fun _ => 0) 61 "_law_ahead" 2 (m__law_ahead 60) := (FF__law_ahead 60)
  have FF__law_like : ∀ n : Nat, FD PySem.Challenge.pw_askwright_k04_whole_trees_in_order w K mg base (fun _ => 0) (65 + n) "_law_like" 2 (m__law_like n) := by
    intro n
    induction n with
    | zero => exact (fd_bad U__law_like (PySem.W.mg_of X G a__law_like) k__law_like (U__law_like.binds (ps := ["tree", "pot"]) fun _ _ _ _ _ _ us hl => match us, hl with | [_, _], _ => rfl) sc__law_like : FD PySem.Challenge.pw_askwright_k04_whole_trees_in_order w K mg base (fun _ => 0) (64 + 1) "_law_like" 2 (fun _ _ => .bad))
    | succ n ih => exact ok__law_like T F__law_good_tree F__law_take n ih U__law_like (PySem.W.mg_of X G a__law_like) k__law_like (U__law_like.binds (ps := ["tree", "pot"]) fun _ _ _ _ _ _ us hl => match us, hl with | [_, _], _ => rfl)
  have F__law_like : FD PySem.Challenge.pw_askwright_k04_whole_trees_in_order w K mg base (fun _ => 0) 125 "_law_like" 2 (m__law_like 60) := (FF__law_like 60)
  have F__law_three : FD PySem.Challenge.pw_askwright_k04_whole_trees_in_order w K mg base (fun _ => 0) 126 "_law_three" 2 m__law_three := ok__law_three T F__law_pot F__law_good_tree F__law_take F__law_like F__law_is_tree U__law_three (PySem.W.mg_of X G a__law_three) k__law_three (U__law_three.binds (ps := ["script", "k"]) fun _ _ _ _ _ _ us hl => match us, hl with | [_, _], _ => rfl)
  exact ok_law T F__law_three F_is_ahead F__law_ahead F_tree_text U_law hm


end Law
open PySem PySem.W PyProof.Rows
set_option maxHeartbeats 0 in
theorem PySem.Challenge.cw_askwright_k04_whole_trees_in_order_holds : PySem.Challenge.rw_askwright_k04_whole_trees_in_order.Holds := by
  w_on; o_law; k_head; (case hw => w_witness2)
  k_fill
  refine L2.walk_of (l := PySem.Challenge.rw_askwright_k04_whole_trees_in_order) (n := 63) (k := 127) (x := "script") (CX := fun _ => L2.CX0) (sp := fun w => DL.spLaw _ 63) rfl (by decide) rfl ⟨rfl, by decide, by decide⟩ (fun w h Y => PySem.W.kIn_of Y) ?F (fun _ _ a ns hl _ hS => ⟨a, ns, rfl, hS, hl, fun _ => rfl⟩) (fun _ _ _ _ _ h => h)
  case F =>
    intro w mg fa h KX G hmg
    refine' Law.all_mk KX G hmg ?a_tree_text ?l_tree_text ?c_tree_text ?k_tree_text ?a_tree_key ?l_tree_key ?c_tree_key ?k_tree_key ?a_is_ahead ?l_is_ahead ?c_is_ahead ?k_is_ahead ?a__law_pot ?l__law_pot ?c__law_pot ?k__law_pot ?a__law_take ?l__law_take ?c__law_take ?k__law_take ?a__law_signs ?l__law_signs ?c__law_signs ?k__law_signs ?a__law_text ?l__law_text ?c__law_text ?k__law_text ?a__law_tree ?l__law_tree ?c__law_tree ?k__law_tree ?a__law_measure ?l__law_measure ?c__law_measure ?k__law_measure ?a__law_is_tree ?l__law_is_tree ?c__law_is_tree ?k__law_is_tree ?a__law_good_tree ?l__law_good_tree ?c__law_good_tree ?k__law_good_tree ?a__law_ahead ?l__law_ahead ?c__law_ahead ?k__law_ahead ?a__law_like ?l__law_like ?c__law_like ?k__law_like ?a__law_three ?l__law_three ?c__law_three ?k__law_three ?a_law ?l_law ?c_law ?k_law ?z_abs ?z_all ?z_bool ?z_isinstance ?z_len ?z_list ?z_max ?z_min ?z_range ?z_str ?z_sum ?z_tuple Law.law_true
    (case a_tree_text => k_is); (case l_tree_text => k_is); (case c_tree_text => k_is); (case k_tree_text => k_is); (case a_tree_key => k_is); (case l_tree_key => k_is); (case c_tree_key => k_is); (case k_tree_key => k_is); (case a_is_ahead => k_is); (case l_is_ahead => k_is); (case c_is_ahead => k_is); (case k_is_ahead => k_is); (case a__law_pot => k_is); (case l__law_pot => k_is); (case c__law_pot => k_is); (case k__law_pot => k_is); (case a__law_take => k_is); (case l__law_take => k_is); (case c__law_take => k_is); (case k__law_take => k_is); (case a__law_signs => k_is); (case l__law_signs => k_is); (case c__law_signs => k_is); (case k__law_signs => k_is); (case a__law_text => k_is); (case l__law_text => k_is); (case c__law_text => k_is); (case k__law_text => k_is); (case a__law_tree => k_is); (case l__law_tree => k_is); (case c__law_tree => k_is); (case k__law_tree => k_is); (case a__law_measure => k_is); (case l__law_measure => k_is); (case c__law_measure => k_is); (case k__law_measure => k_is); (case a__law_is_tree => k_is); (case l__law_is_tree => k_is); (case c__law_is_tree => k_is); (case k__law_is_tree => k_is); (case a__law_good_tree => k_is); (case l__law_good_tree => k_is); (case c__law_good_tree => k_is); (case k__law_good_tree => k_is); (case a__law_ahead => k_is); (case l__law_ahead => k_is); (case c__law_ahead => k_is); (case k__law_ahead => k_is); (case a__law_like => k_is); (case l__law_like => k_is); (case c__law_like => k_is); (case k__law_like => k_is); (case a__law_three => k_is); (case l__law_three => k_is); (case c__law_three => k_is); (case k__law_three => k_is); (case a_law => k_is); (case l_law => k_is); (case c_law => k_is); (case k_law => k_is); (case z_abs => k_is); (case z_all => k_is); (case z_bool => k_is); (case z_isinstance => k_is); (case z_len => k_is); (case z_list => k_is); (case z_max => k_is); (case z_min => k_is); (case z_range => k_is); (case z_str => k_is); (case z_sum => k_is); (case z_tuple => k_is)

