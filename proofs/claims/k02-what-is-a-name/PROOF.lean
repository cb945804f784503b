import PyProof.Rows.All
import Wide.All
import OpenK.AllK
import Wide.FinOn
import HandS.ForMost
import HandS.ForExc
import HandS.IsInst
import HandS.Flow
import HandS.TupAny
import HandS.Steps
import HandS.TupMul
import PySem.Challenge.RW_askwright_k02_what_is_a_name
set_option Elab.async false
set_option linter.all false
set_option maxRecDepth 100000
set_option autoImplicit false
set_option maxHeartbeats 4000000
/-! The data layer: plain data D, a store of cells, and what a piece of the text does to them. -/
namespace DL
open PySem PySem.Spec PyProof.Rows L2

/-- data: what a value is worth; obj n: the store's cell n -/
inductive D where
  | non | bl (b : Bool) | int (i : Int) | str (x : Str)
  | tup (ds : List D) | lst (ds : List D) | dct (ks : List Key) (ds : List D) | obj (n : Nat)
  /-- a list that is handed in -/
  | scr (ds : List D)

/-- a changing thing -/
inductive Cell where
  | lst (ds : List D) | dct (ks : List Key) (ds : List D) | ins (C : Str) (fs : List (Str × D))

abbrev Sto := List Cell
abbrev En := List (Option D)

inductive RE where
  | ok (d : D) (S : Sto) | exc (c : Str) (S : Sto) | bad
inductive RA where
  | ok (ds : List D) (S : Sto) | exc (c : Str) (S : Sto) | bad
inductive RB where
  | ok (b : Bool) (S : Sto) | exc (c : Str) (S : Sto) | bad
inductive RS' where
  | nx (e : En) (S : Sto) | ret (d : D) (S : Sto) | brk (e : En) (S : Sto) | cont (e : En) (S : Sto) | exc (c : Str) (e : En) (S : Sto) | bad
abbrev ME := En → Sto → RE
abbrev MA := En → Sto → RA
abbrev MB := En → Sto → RB
abbrev MS := En → Sto → RS'
abbrev MF := List D → Sto → RE

section
variable (K : PySem.W.Frag) (B : Addr → Prop)

/-- a tuple, a list that stands still -/
def FT (ι : List Addr) (H : Hp) (a : Addr) (xs : List V) : Prop :=
  (a ∉ ι ∧ ¬ B a ∧ Rd H a (.tup xs)) ∨
    ∃ (o : Obj) (its : Array Value) (n : Nat), K.lookup a = some o ∧ o.cls = .type "tuple" ∧ o.data = .seq its n ∧ its.size ≤ sizeLine ∧ Vals xs its.toList
def FL (ι : List Addr) (H : Hp) (a : Addr) (xs : List V) : Prop := a ∉ ι ∧ ¬ B a ∧ Rd H a (.lst xs)

/-- .. or an object of the module -/
def FS (ι : List Addr) (H : Hp) (a : Addr) (xs : List V) : Prop := FL B ι H a xs ∨
    ∃ (o : Obj) (its : Array Value) (n : Nat), K.lookup a = some o ∧ o.cls = .type "list" ∧ o.dict = none ∧ o.data = .seq its n ∧ its.size ≤ sizeLine ∧ Vals xs its.toList

mutual
def RD (ι : List Addr) (H : Hp) : D → V → Prop
  | .non, v => v = .non
  | .bl b, v => v = .bl b
  | .int i, v => v = .int i
  | .str x, v => v = .str x
  | .tup ds, v => ∃ a xs, v = .ref a ∧ FT K B ι H a xs ∧ RDs ι H ds xs
  | .lst ds, v => ∃ a xs, v = .ref a ∧ FL B ι H a xs ∧ RDs ι H ds xs
  | .dct ks ds, v => ∃ a xs, v = .ref a ∧ a ∉ ι ∧ ¬ B a ∧ H a = some (.dK (ks.zip xs)) ∧ ks.length = xs.length ∧ RDs ι H ds xs
  | .obj n, v => ∃ a, v = .ref a ∧ ι[n]? = some a
  | .scr ds, v => ∃ a xs, v = .ref a ∧ FS K B ι H a xs ∧ RDs ι H ds xs
def RDs (ι : List Addr) (H : Hp) : List D → List V → Prop
  | [], vs => vs = []
  | d :: ds, vs => ∃ v r, vs = v :: r ∧ RD ι H d v ∧ RDs ι H ds r
end
end

/-- what a step leaves as it was -/
structure Fr (ι ι' : List Addr) (H H' : Hp) : Prop where
  pre : ∃ l, ι' = ι ++ l ∧ ∀ a ∈ l, a ∉ ι ∧ H a = none
  st : ∀ a o, H a = some o → a ∉ ι → H' a = some o

theorem Fr.same {ι : List Addr} {H H' : Hp} (h : Same H H') : Fr ι ι H H' := ⟨⟨[], by simp, by simp⟩, fun a o e _ => h a o e⟩
theorem Fr.refl {ι : List Addr} {H : Hp} : Fr ι ι H H := Fr.same fun _ _ e => e
theorem Fr.trans {ι ι' ι'' : List Addr} {H H' H'' : Hp} (f : Fr ι ι' H H') (g : Fr ι' ι'' H' H'') : Fr ι ι'' H H'' := by
  obtain ⟨⟨l, e, p⟩, s⟩ := f
  obtain ⟨⟨l', e', p'⟩, s'⟩ := g
  subst e e'
  have hl : ∀ a o, H a = some o → a ∉ ι → a ∉ ι ++ l := fun a o h n m => by
    rcases List.mem_append.mp m with m | m
    · exact n m
    · rw [(p a m).2] at h; cases h
  refine ⟨⟨l ++ l', by simp, fun a m => ?_⟩, fun a o h n => s' a o (s a o h n) (hl a o h n)⟩
  rcases List.mem_append.mp m with m | m
  · exact p a m
  · have hn : a ∉ ι := fun z => (p' a m).1 (List.mem_append_left _ z)
    refine ⟨hn, ?_⟩
    cases q : H a with
    | none => rfl
    | some o =>
      have := s a o q hn
      rw [(p' a m).2] at this; cases this
theorem Fr.sub {ι ι' : List Addr} {H H' : Hp} (f : Fr ι ι' H H') {a : Addr} (h : a ∈ ι) : a ∈ ι' := by
  obtain ⟨⟨l, rfl, _⟩, _⟩ := f; exact List.mem_append_left _ h
theorem Fr.get {ι ι' : List Addr} {H H' : Hp} (f : Fr ι ι' H H') {n : Nat} {a : Addr} (h : ι[n]? = some a) : ι'[n]? = some a := by
  obtain ⟨⟨l, rfl, _⟩, _⟩ := f
  rw [List.getElem?_append_left (List.getElem?_eq_some_iff.mp h).1]; exact h
theorem Fr.out {ι ι' : List Addr} {H H' : Hp} (f : Fr ι ι' H H') {a : Addr} {o : HO} (h : H a = some o) (n : a ∉ ι) : a ∉ ι' := by
  obtain ⟨⟨l, rfl, p⟩, _⟩ := f
  intro m
  rcases List.mem_append.mp m with m | m
  · exact n m
  · rw [(p a m).2] at h; cases h
theorem Fr.rd {ι ι' : List Addr} {H H' : Hp} (f : Fr ι ι' H H') {a : Addr} {u : HO} (h : Rd H a u) (n : a ∉ ι) : a ∉ ι' ∧ Rd H' a u := by
  rcases h with h | ⟨o, h⟩
  · exact ⟨f.out h n, .inl (f.st _ _ h n)⟩
  · exact ⟨f.out h n, .inr ⟨o, f.st _ _ h n⟩⟩

section
variable {K : PySem.W.Frag} {B : Addr → Prop}
theorem FT.fr {ι ι' : List Addr} {H H' : Hp} {a : Addr} {xs : List V} (f : Fr ι ι' H H') : FT K B ι H a xs → FT K B ι' H' a xs
  | .inl ⟨h1, h2, h3⟩ => .inl ⟨(f.rd h3 h1).1, h2, (f.rd h3 h1).2⟩
  | .inr h => .inr h
theorem FL.fr {ι ι' : List Addr} {H H' : Hp} {a : Addr} {xs : List V} (f : Fr ι ι' H H') : FL B ι H a xs → FL B ι' H' a xs
  | ⟨h1, h2, h3⟩ => ⟨(f.rd h3 h1).1, h2, (f.rd h3 h1).2⟩
theorem FS.fr {ι ι' : List Addr} {H H' : Hp} {a : Addr} {xs : List V} (f : Fr ι ι' H H') : FS K B ι H a xs → FS K B ι' H' a xs
  | .inl h => .inl (h.fr f)
  | .inr h => .inr h
theorem FT.sq {ι : List Addr} {H : Hp} {a : Addr} {xs : List V} : FT K B ι H a xs → SqT K H a xs
  | .inl ⟨_, _, h⟩ => .inl h
  | .inr h => .inr h
theorem FL.sq {ι : List Addr} {H : Hp} {a : Addr} {xs : List V} : FL B ι H a xs → SqL K H a xs
  | ⟨_, _, h⟩ => .inl h

theorem FS.sq {ι : List Addr} {H : Hp} {a : Addr} {xs : List V} : FS K B ι H a xs → SqL K H a xs
  | .inl h => h.sq
  | .inr h => .inr h

mutual
theorem RD.fr {ι ι' : List Addr} {H H' : Hp} (f : Fr ι ι' H H') : ∀ (d : D) (v : V), RD K B ι H d v → RD K B ι' H' d v
  | .non, v, h => by rw [RD] at h ⊢; exact h
  | .bl b, v, h => by rw [RD] at h ⊢; exact h
  | .int i, v, h => by rw [RD] at h ⊢; exact h
  | .str x, v, h => by rw [RD] at h ⊢; exact h
  | .tup ds, v, h => by
    rw [RD] at h ⊢
    obtain ⟨a, xs, e, h1, h2⟩ := h
    exact ⟨a, xs, e, h1.fr f, RDs.fr f ds xs h2⟩
  | .lst ds, v, h => by
    rw [RD] at h ⊢
    obtain ⟨a, xs, e, h1, h2⟩ := h
    exact ⟨a, xs, e, h1.fr f, RDs.fr f ds xs h2⟩
  | .dct ks ds, v, h => by
    rw [RD] at h ⊢
    obtain ⟨a, xs, e, h1, h2, h3, h4, h5⟩ := h
    exact ⟨a, xs, e, f.out h3 h1, h2, f.st _ _ h3 h1, h4, RDs.fr f ds xs h5⟩
  | .obj n, v, h => by
    rw [RD] at h ⊢
    obtain ⟨a, e, h1⟩ := h
    exact ⟨a, e, f.get h1⟩
  | .scr ds, v, h => by
    rw [RD] at h ⊢
    obtain ⟨a, xs, e, h1, h2⟩ := h
    exact ⟨a, xs, e, h1.fr f, RDs.fr f ds xs h2⟩
theorem RDs.fr {ι ι' : List Addr} {H H' : Hp} (f : Fr ι ι' H H') : ∀ (ds : List D) (vs : List V), RDs K B ι H ds vs → RDs K B ι' H' ds vs
  | [], vs, h => by rw [RDs] at h ⊢; exact h
  | d :: ds, vs, h => by
    rw [RDs] at h ⊢
    obtain ⟨v, r, e, h1, h2⟩ := h
    exact ⟨v, r, e, RD.fr f d v h1, RDs.fr f ds r h2⟩
end
variable {ι : List Addr} {H : Hp}
theorem RDs.nil : RDs K B ι H [] [] := by rw [RDs]
theorem RDs.cons {d : D} {v : V} {ds : List D} {vs : List V} (h : RD K B ι H d v) (t : RDs K B ι H ds vs) : RDs K B ι H (d :: ds) (v :: vs) := by
  rw [RDs]; exact ⟨v, vs, rfl, h, t⟩
theorem RDs.uncons {d : D} {v : V} {ds : List D} {vs : List V} (h : RDs K B ι H (d :: ds) (v :: vs)) : RD K B ι H d v ∧ RDs K B ι H ds vs := by
  rw [RDs] at h
  obtain ⟨v', r, e, h1, h2⟩ := h
  cases e
  exact ⟨h1, h2⟩
theorem RDs.nil_inv {vs : List V} (h : RDs K B ι H [] vs) : vs = [] := by rw [RDs] at h; exact h
theorem RDs.cons_inv {d : D} {ds : List D} {vs : List V} (h : RDs K B ι H (d :: ds) vs) : ∃ v r, vs = v :: r ∧ RD K B ι H d v ∧ RDs K B ι H ds r := by rw [RDs] at h; exact h
theorem RDs.len : ∀ {ds : List D} {vs : List V}, RDs K B ι H ds vs → ds.length = vs.length
  | [], vs, h => by rw [h.nil_inv] <;> rfl
  | d :: ds, vs, h => by
    obtain ⟨v, r, rfl, _, h2⟩ := h.cons_inv
    rw [List.length_cons, List.length_cons, RDs.len h2]
theorem RDs.get : ∀ {ds : List D} {vs : List V} {i : Nat} {d : D}, RDs K B ι H ds vs → ds[i]? = some d → ∃ v, vs[i]? = some v ∧ RD K B ι H d v
  | [], vs, i, d, h, e => by simp at e
  | c :: ds, vs, 0, d, h, e => by
    obtain ⟨v, r, rfl, h1, _⟩ := h.cons_inv
    simp at e; subst e
    exact ⟨v, rfl, h1⟩
  | c :: ds, vs, i + 1, d, h, e => by
    obtain ⟨v, r, rfl, _, h2⟩ := h.cons_inv
    obtain ⟨u, h3, h4⟩ := RDs.get (i := i) h2 (by simpa using e)
    exact ⟨u, by simpa using h3, h4⟩
theorem RDs.get' {ds : List D} {vs : List V} {i : Nat} {v : V} (h : RDs K B ι H ds vs) (e : vs[i]? = some v) : ∃ d, ds[i]? = some d ∧ RD K B ι H d v := by
  have hi : i < ds.length := by rw [h.len]; exact (List.getElem?_eq_some_iff.mp e).1
  obtain ⟨u, h1, h2⟩ := h.get (List.getElem?_eq_getElem hi)
  rw [e] at h1; cases h1
  exact ⟨_, List.getElem?_eq_getElem hi, h2⟩
theorem RDs.append : ∀ {ds es : List D} {vs us : List V}, RDs K B ι H ds vs → RDs K B ι H es us → RDs K B ι H (ds ++ es) (vs ++ us)
  | [], es, vs, us, h, g => by rw [h.nil_inv]; exact g
  | d :: ds, es, vs, us, h, g => by
    obtain ⟨v, r, rfl, h1, h2⟩ := h.cons_inv
    exact .cons h1 (RDs.append h2 g)
theorem RDs.take : ∀ {ds : List D} {vs : List V} (n : Nat), RDs K B ι H ds vs → RDs K B ι H (ds.take n) (vs.take n)
  | ds, vs, 0, h => by simp; exact .nil
  | [], vs, n + 1, h => by rw [h.nil_inv]; exact .nil
  | d :: ds, vs, n + 1, h => by
    obtain ⟨v, r, rfl, h1, h2⟩ := h.cons_inv
    exact .cons h1 (RDs.take n h2)
theorem RDs.drop : ∀ {ds : List D} {vs : List V} (n : Nat), RDs K B ι H ds vs → RDs K B ι H (ds.drop n) (vs.drop n)
  | ds, vs, 0, h => by simpa using h
  | [], vs, n + 1, h => by rw [h.nil_inv]; exact .nil
  | d :: ds, vs, n + 1, h => by
    obtain ⟨v, r, rfl, h1, h2⟩ := h.cons_inv
    simpa using RDs.drop n h2
theorem RDs.set : ∀ {ds : List D} {vs : List V} {d : D} {v : V} (i : Nat), RDs K B ι H ds vs → RD K B ι H d v → RDs K B ι H (ds.set i d) (vs.set i v)
  | [], vs, d, v, i, h, g => by rw [h.nil_inv]; simpa using (RDs.nil : RDs K B ι H [] [])
  | c :: ds, vs, d, v, 0, h, g => by
    obtain ⟨v, r, rfl, h1, h2⟩ := h.cons_inv
    exact .cons g h2
  | c :: ds, vs, d, v, i + 1, h, g => by
    obtain ⟨v, r, rfl, h1, h2⟩ := h.cons_inv
    exact .cons h1 (RDs.set i h2 g)
theorem RD.mk_int {i : Int} : RD K B ι H (.int i) (.int i) := by rw [RD]
theorem RD.mk_bl {b : Bool} : RD K B ι H (.bl b) (.bl b) := by rw [RD]
theorem RD.mk_str {x : Str} : RD K B ι H (.str x) (.str x) := by rw [RD]
theorem RD.mk_non : RD K B ι H .non .non := by rw [RD]
theorem RD.int {i : Int} {v : V} (h : RD K B ι H (.int i) v) : v = .int i := by rw [RD] at h; exact h
theorem RD.bl {b : Bool} {v : V} (h : RD K B ι H (.bl b) v) : v = .bl b := by rw [RD] at h; exact h
theorem RD.str {x : Str} {v : V} (h : RD K B ι H (.str x) v) : v = .str x := by rw [RD] at h; exact h
theorem RD.non {v : V} (h : RD K B ι H .non v) : v = .non := by rw [RD] at h; exact h
theorem RD.tup {ds : List D} {v : V} (h : RD K B ι H (.tup ds) v) : ∃ a xs, v = .ref a ∧ FT K B ι H a xs ∧ RDs K B ι H ds xs := by rw [RD] at h; exact h
theorem RD.lst {ds : List D} {v : V} (h : RD K B ι H (.lst ds) v) : ∃ a xs, v = .ref a ∧ FL B ι H a xs ∧ RDs K B ι H ds xs := by rw [RD] at h; exact h
theorem RD.obj {n : Nat} {v : V} (h : RD K B ι H (.obj n) v) : ∃ a, v = .ref a ∧ ι[n]? = some a := by rw [RD] at h; exact h
theorem RD.dct {ks : List Key} {ds : List D} {v : V} (h : RD K B ι H (.dct ks ds) v) : ∃ a xs, v = .ref a ∧ a ∉ ι ∧ ¬ B a ∧ H a = some (.dK (ks.zip xs)) ∧ ks.length = xs.length ∧ RDs K B ι H ds xs := by rw [RD] at h; exact h
theorem RD.scr {ds : List D} {v : V} (h : RD K B ι H (.scr ds) v) : ∃ a xs, v = .ref a ∧ FS K B ι H a xs ∧ RDs K B ι H ds xs := by rw [RD] at h; exact h
theorem RD.mk_obj {n : Nat} {a : Addr} (h : ι[n]? = some a) : RD K B ι H (.obj n) (.ref a) := by rw [RD]; exact ⟨a, rfl, h⟩
theorem RD.mk_tup {ds : List D} {a : Addr} {xs : List V} (h : FT K B ι H a xs) (r : RDs K B ι H ds xs) : RD K B ι H (.tup ds) (.ref a) := by rw [RD]; exact ⟨a, xs, rfl, h, r⟩
theorem RD.mk_lst {ds : List D} {a : Addr} {xs : List V} (h : FL B ι H a xs) (r : RDs K B ι H ds xs) : RD K B ι H (.lst ds) (.ref a) := by rw [RD]; exact ⟨a, xs, rfl, h, r⟩
end

section
variable (K : PySem.W.Frag) (cA : Str → Addr) (B : Addr → Prop)
/-- a cell stands at a -/
def RO (ι : List Addr) (H : Hp) (a : Addr) : Cell → Prop
  | .lst ds => ∃ xs, H a = some (.lst xs) ∧ RDs K B ι H ds xs
  | .dct ks ds => ∃ xs, H a = some (.dK (ks.zip xs)) ∧ ks.length = xs.length ∧ RDs K B ι H ds xs
  | .ins C fs => ∃ dx xs, H a = some (.ins (cA C) dx ((fs.map (·.1)).zip xs)) ∧ fs.length = xs.length ∧ RDs K B ι H (fs.map (·.2)) xs
structure RS (ι : List Addr) (S : Sto) (H : Hp) : Prop where
  len : ι.length = S.length
  nd : ι.Nodup
  nB : ∀ a, B a → a ∉ ι ∧ ∃ o, H a = some o
  at_ : ∀ (i : Nat) (c : Cell), S[i]? = some c → ∃ a, ι[i]? = some a ∧ RO K cA B ι H a c
structure Rel (ι : List Addr) (e : En) (S : Sto) (σ : L2.St) (H : Hp) : Prop where
  rs : RS K cA B ι S H
  len : e.length = σ.length
  ev : ∀ (i : Nat) (d : D), e[i]? = some (some d) → ∃ v, σ[i]? = some (some v) ∧ RD K B ι H d v
end
section
variable {K : PySem.W.Frag} {cA : Str → Addr} {B : Addr → Prop} {ι ι' : List Addr} {H H' : Hp} {S S' : Sto} {e : En} {σ : L2.St}
theorem RO.fr {a : Addr} {c : Cell} (f : Fr ι ι' H H') (ha : H' a = H a) (h : RO K cA B ι H a c) : RO K cA B ι' H' a c := by
  cases c with
  | lst ds => obtain ⟨xs, h1, h2⟩ := h; exact ⟨xs, by rw [ha]; exact h1, RDs.fr f _ _ h2⟩
  | dct ks ds => obtain ⟨xs, h1, h2, h3⟩ := h; exact ⟨xs, by rw [ha]; exact h1, h2, RDs.fr f _ _ h3⟩
  | ins C fs => obtain ⟨dx, xs, h1, h2, h3⟩ := h; exact ⟨dx, xs, by rw [ha]; exact h1, h2, RDs.fr f _ _ h3⟩
theorem RO.has {a : Addr} {c : Cell} (h : RO K cA B ι H a c) : ∃ o, H a = some o := by
  cases c with
  | lst ds => obtain ⟨xs, h1, h2⟩ := h; exact ⟨_, h1⟩
  | dct ks ds => obtain ⟨xs, h1, h2, h3⟩ := h; exact ⟨_, h1⟩
  | ins C fs => obtain ⟨dx, xs, h1, h2, h3⟩ := h; exact ⟨_, h1⟩
theorem RS.same (r : RS K cA B ι S H) (h : Same H H') : RS K cA B ι S H' := ⟨r.len, r.nd, fun a b => let ⟨h1, o, h2⟩ := r.nB a b; ⟨h1, o, h a o h2⟩, fun i c e => by
  obtain ⟨a, h1, h2⟩ := r.at_ i c e
  obtain ⟨o, ho⟩ := h2.has
  exact ⟨a, h1, h2.fr (Fr.same h) (by rw [ho]; exact h a o ho)⟩⟩
theorem RS.there (r : RS K cA B ι S H) {a : Addr} (h : a ∈ ι) : ∃ o, H a = some o := by
  obtain ⟨i, hi, e⟩ := List.getElem_of_mem h
  have : i < S.length := by rw [← r.len]; exact hi
  obtain ⟨b, h1, h2⟩ := r.at_ i _ (List.getElem?_eq_getElem this)
  rw [List.getElem?_eq_getElem hi, e] at h1; cases h1
  exact h2.has
theorem Rel.fr (r : Rel K cA B ι e S σ H) (f : Fr ι ι' H H') (rs : RS K cA B ι' S' H') : Rel K cA B ι' e S' σ H' :=
  ⟨rs, r.len, fun i d h => let ⟨v, h1, h2⟩ := r.ev i d h; ⟨v, h1, RD.fr f d v h2⟩⟩
end

section
variable (K : PySem.W.Frag) (cA : Str → Addr) (W : WX)
/-- what is wanted behind an expression -/
def PoE (B : Addr → Prop) (r : RE) (ι : List Addr) (σ : L2.St) (H : Hp) (Q : VK) : Prop :=
  match r with
  | .ok d S => ∀ ι' v H', Fr ι ι' H H' → RS K cA B ι' S H' → RD K B ι' H' d v → Q v H'
  | .exc c S => ∀ ι' H', Fr ι ι' H H' → RS K cA B ι' S H' → W (.ref (cA c)) none σ H'
  | .bad => False
def PoA (B : Addr → Prop) (r : RA) (ι : List Addr) (σ : L2.St) (H : Hp) (Q : List V → Hp → Prop) : Prop :=
  match r with
  | .ok ds S => ∀ ι' vs H', Fr ι ι' H H' → RS K cA B ι' S H' → RDs K B ι' H' ds vs → Q vs H'
  | .exc c S => ∀ ι' H', Fr ι ι' H H' → RS K cA B ι' S H' → W (.ref (cA c)) none σ H'
  | .bad => False
def PoB (B : Addr → Prop) (r : RB) (ι : List Addr) (σ : L2.St) (H : Hp) (Q : Bool → Hp → Prop) : Prop :=
  match r with
  | .ok b S => ∀ ι' H', Fr ι ι' H H' → RS K cA B ι' S H' → Q b H'
  | .exc c S => ∀ ι' H', Fr ι ι' H H' → RS K cA B ι' S H' → W (.ref (cA c)) none σ H'
  | .bad => False
def PoS (B : Addr → Prop) (r : RS') (ι : List Addr) (H : Hp) (D' : Ends) : Prop :=
  match r with
  | .nx e S => ∀ ι' σ' H', Fr ι ι' H H' → Rel K cA B ι' e S σ' H' → D'.nx σ' H'
  | .brk e S => ∀ ι' σ' H', Fr ι ι' H H' → Rel K cA B ι' e S σ' H' → D'.bk σ' H'
  | .cont e S => ∀ ι' σ' H', Fr ι ι' H H' → Rel K cA B ι' e S σ' H' → D'.ct σ' H'
  | .ret d S => ∀ ι' v H', Fr ι ι' H H' → RS K cA B ι' S H' → RD K B ι' H' d v → D'.rt v H'
  | .exc c e S => ∀ ι' σ' H', Fr ι ι' H H' → Rel K cA B ι' e S σ' H' → W (.ref (cA c)) none σ' H'
  | .bad => False
def tE (m : ME) : TE := fun σ H Q => ∃ B ι e S, Rel K cA B ι e S σ H ∧ PoE K cA W B (m e S) ι σ H Q
def tA (m : MA) : TA := fun σ H Q => ∃ B ι e S, Rel K cA B ι e S σ H ∧ PoA K cA W B (m e S) ι σ H Q
def tT (m : MB) : TT := fun σ H Q => ∃ B ι e S, Rel K cA B ι e S σ H ∧ PoB K cA W B (m e S) ι σ H Q
def tS (m : MS) : TS := fun D' σ H => ∃ B ι e S, Rel K cA B ι e S σ H ∧ PoS K cA W B (m e S) ι H D'
end
end DL

/-! The data layer: expressions and statements. -/
namespace DL
open PySem PySem.Spec PyProof.Rows L2

/-! ### weakening -/
theorem PEi {X : Cx} {e : Expr} {t t' : TE} (h : PE X e t) (i : ∀ σ H Q, t' σ H Q → t σ H Q) : PE X e t' := ⟨fun p s σ H Q I q => h.run p s σ H Q I (i σ H Q q)⟩
theorem PTi {X : Cx} {e : Expr} {t t' : TT} (h : PT X e t) (i : ∀ σ H Q, t' σ H Q → t σ H Q) : PT X e t' := ⟨fun p s σ H Q I q => h.run p s σ H Q I (i σ H Q q)⟩
theorem PWi {X : Cx} {e : Expr} {t t' : TT} (h : PW X e t) (i : ∀ σ H Q, t' σ H Q → t σ H Q) : PW X e t' := ⟨fun wh p s σ H Q I q => h.run wh p s σ H Q I (i σ H Q q)⟩
theorem PAi {X : Cx} {e : List Expr} {t t' : TA} (h : PA X e t) (i : ∀ σ H Q, t' σ H Q → t σ H Q) : PA X e t' := ⟨fun po p s σ H Q I q => h.run po p s σ H Q I (i σ H Q q)⟩
theorem PSi {X : Cx} {e : Stmt} {t t' : TS} (h : PS X e t) (i : ∀ D' σ H, t' D' σ H → t D' σ H) : PS X e t' := ⟨fun p s σ H D' I q => h.run p s σ H D' I (i D' σ H q)⟩
theorem PSsi {X : Cx} {e : List Stmt} {t t' : TS} (h : PSs X e t) (i : ∀ D' σ H, t' D' σ H → t D' σ H) : PSs X e t' := ⟨fun p s σ H D' I q => h.run p s σ H D' I (i D' σ H q)⟩

/-! ### what a piece does -/
def RE.bind (r : RE) (f : D → Sto → RE) : RE := match r with | .ok d S => f d S | .exc c S => .exc c S | .bad => .bad
def RE.bindA (r : RE) (f : D → Sto → RA) : RA := match r with | .ok d S => f d S | .exc c S => .exc c S | .bad => .bad
def RE.bindB (r : RE) (f : D → Sto → RB) : RB := match r with | .ok d S => f d S | .exc c S => .exc c S | .bad => .bad
def RE.bindS (r : RE) (e : En) (f : D → Sto → RS') : RS' := match r with | .ok d S => f d S | .exc c S => .exc c e S | .bad => .bad
def RA.bind (r : RA) (f : List D → Sto → RE) : RE := match r with | .ok d S => f d S | .exc c S => .exc c S | .bad => .bad
def RA.bindA (r : RA) (f : List D → Sto → RA) : RA := match r with | .ok d S => f d S | .exc c S => .exc c S | .bad => .bad
def RB.bind (r : RB) (f : Bool → Sto → RE) : RE := match r with | .ok d S => f d S | .exc c S => .exc c S | .bad => .bad
def RB.bindB (r : RB) (f : Bool → Sto → RB) : RB := match r with | .ok d S => f d S | .exc c S => .exc c S | .bad => .bad
def RB.bindS (r : RB) (e : En) (f : Bool → Sto → RS') : RS' := match r with | .ok d S => f d S | .exc c S => .exc c e S | .bad => .bad
def RS'.bind (r : RS') (f : En → Sto → RS') : RS' := match r with | .nx e S => f e S | r => r
def opt (r : Option D) (S : Sto) : RE := match r with | some d => .ok d S | none => .bad
def optB (r : Option Bool) (S : Sto) : RB := match r with | some d => .ok d S | none => .bad

def eV (i : Nat) : ME := fun e S => match e[i]? with | some (some d) => .ok d S | _ => .bad
def eC (d : D) : ME := fun _ S => .ok d S
def e2 (g : Sto → D → D → Option D) (a b : ME) : ME := fun e S => (a e S).bind fun x S1 => (b e S1).bind fun y S2 => opt (g S2 x y) S2
def e1 (g : Sto → D → Option D) (a : ME) : ME := fun e S => (a e S).bind fun x S1 => opt (g S1 x) S1
def tOf (a : ME) : MB := fun e S => (a e S).bindB fun x S1 => match x with | .bl b => .ok b S1 | _ => .bad
def tNo (a : MB) : MB := fun e S => (a e S).bindB fun b S1 => .ok (!b) S1
def tAn (a b : MB) : MB := fun e S => (a e S).bindB fun x S1 => if x = true then b e S1 else .ok false S1
def tO (a b : MB) : MB := fun e S => (a e S).bindB fun x S1 => if x = true then .ok true S1 else b e S1
def eIf (c : MB) (a b : ME) : ME := fun e S => (c e S).bind fun x S1 => if x = true then a e S1 else b e S1
def eNo (a : ME) : ME := fun e S => (a e S).bind fun x S1 => match x with | .bl b => .ok (.bl (!b)) S1 | _ => .bad
/-- a and b: a True or False -/
def eAn (a b : ME) : ME := fun e S => (a e S).bind fun x S1 => match x with | .bl true => b e S1 | .bl false => .ok (.bl false) S1 | _ => .bad
def eO (a b : ME) : ME := fun e S => (a e S).bind fun x S1 => match x with | .bl false => b e S1 | .bl true => .ok (.bl true) S1 | _ => .bad
def aN : MA := fun _ S => .ok [] S
def aC (a : ME) (r : MA) : MA := fun e S => (a e S).bindA fun x S1 => (r e S1).bindA fun xs S2 => .ok (x :: xs) S2
def eTup (a : MA) : ME := fun e S => (a e S).bind fun xs S1 => if xs.length ≤ 16777216 then .ok (.tup xs) S1 else .bad
/-- a list that is not changed any more -/
def eLst (a : MA) : ME := fun e S => (a e S).bind fun xs S1 => if xs.length ≤ 16777216 then .ok (.lst xs) S1 else .bad
/-- a list that changes: a new cell -/
def eNew (a : MA) : ME := fun e S => (a e S).bind fun xs S1 => if xs.length ≤ 16777216 then .ok (.obj S1.length) (S1 ++ [.lst xs]) else .bad
def eB (g : Sto → List D → Option D) (a : MA) : ME := fun e S => (a e S).bind fun xs S1 => opt (g S1 xs) S1

def sPass : MS := fun e S => .nx e S
def sSeq (a b : MS) : MS := fun e S => (a e S).bind b
def sSet (i : Nat) (m : ME) : MS := fun e S => (m e S).bindS e fun d S1 => .nx (e.set i (some d)) S1
def sEx (m : ME) : MS := fun e S => (m e S).bindS e fun _ S1 => .nx e S1
def sRet (m : ME) : MS := fun e S => (m e S).bindS e fun d S1 => .ret d S1
def sRetN : MS := fun _ S => .ret .non S
def sIf (c : MB) (a b : MS) : MS := fun e S => (c e S).bindS e fun x S1 => if x = true then a e S1 else b e S1
def sBrk : MS := fun e S => .brk e S
def sCont : MS := fun e S => .cont e S

section
variable {K : PySem.W.Frag} {cA : Str → Addr} {W : WX} {B : Addr → Prop}
/-- behind a first expression -/
theorem po_bind {m : ME} {f : D → Sto → RE} {ι : List Addr} {e : En} {S : Sto} {σ : L2.St} {H : Hp} {Q : VK} {T : VK} (r : Rel K cA B ι e S σ H)
    (h : PoE K cA W B ((m e S).bind f) ι σ H Q) (k : ∀ ι' v H' d S', Fr ι ι' H H' → Rel K cA B ι' e S' σ H' → RD K B ι' H' d v → PoE K cA W B (f d S') ι' σ H' Q → T v H') : PoE K cA W B (m e S) ι σ H T := by
  unfold RE.bind at h
  cases q : m e S with
  | bad => rw [q] at h; exact h
  | exc c S' => rw [q] at h; exact h
  | ok d S' =>
    rw [q] at h
    intro ι' v H' fr rs rd
    refine k ι' v H' d S' fr (r.fr fr rs) rd ?_
    show PoE K cA W B (f d S') ι' σ H' Q
    change PoE K cA W B (f d S') ι σ H Q at h
    revert h
    cases f d S' with
    | bad => exact id
    | ok d2 S2 => exact fun h ι2 v2 H2 f2 r2 d2 => h ι2 v2 H2 (fr.trans f2) r2 d2
    | exc c S2 => exact fun h ι2 H2 f2 r2 => h ι2 H2 (fr.trans f2) r2
theorem po_bindB {m : ME} {f : D → Sto → RB} {ι : List Addr} {e : En} {S : Sto} {σ : L2.St} {H : Hp} {Q : Bool → Hp → Prop} {T : VK} (r : Rel K cA B ι e S σ H)
    (h : PoB K cA W B ((m e S).bindB f) ι σ H Q) (k : ∀ ι' v H' d S', Fr ι ι' H H' → Rel K cA B ι' e S' σ H' → RD K B ι' H' d v → PoB K cA W B (f d S') ι' σ H' Q → T v H') : PoE K cA W B (m e S) ι σ H T := by
  unfold RE.bindB at h
  cases q : m e S with
  | bad => rw [q] at h; exact h
  | exc c S' => rw [q] at h; exact h
  | ok d S' =>
    rw [q] at h
    intro ι' v H' fr rs rd
    refine k ι' v H' d S' fr (r.fr fr rs) rd ?_
    show PoB K cA W B (f d S') ι' σ H' Q
    change PoB K cA W B (f d S') ι σ H Q at h
    revert h
    cases f d S' with
    | bad => exact id
    | ok d2 S2 => exact fun h ι2 H2 f2 r2 => h ι2 H2 (fr.trans f2) r2
    | exc c S2 => exact fun h ι2 H2 f2 r2 => h ι2 H2 (fr.trans f2) r2
theorem po_bindA {m : ME} {f : D → Sto → RA} {ι : List Addr} {e : En} {S : Sto} {σ : L2.St} {H : Hp} {Q : List V → Hp → Prop} {T : VK} (r : Rel K cA B ι e S σ H)
    (h : PoA K cA W B ((m e S).bindA f) ι σ H Q) (k : ∀ ι' v H' d S', Fr ι ι' H H' → Rel K cA B ι' e S' σ H' → RD K B ι' H' d v → PoA K cA W B (f d S') ι' σ H' Q → T v H') : PoE K cA W B (m e S) ι σ H T := by
  unfold RE.bindA at h
  cases q : m e S with
  | bad => rw [q] at h; exact h
  | exc c S' => rw [q] at h; exact h
  | ok d S' =>
    rw [q] at h
    intro ι' v H' fr rs rd
    refine k ι' v H' d S' fr (r.fr fr rs) rd ?_
    show PoA K cA W B (f d S') ι' σ H' Q
    change PoA K cA W B (f d S') ι σ H Q at h
    revert h
    cases f d S' with
    | bad => exact id
    | ok d2 S2 => exact fun h ι2 v2 H2 f2 r2 d2 => h ι2 v2 H2 (fr.trans f2) r2 d2
    | exc c S2 => exact fun h ι2 H2 f2 r2 => h ι2 H2 (fr.trans f2) r2
theorem poA_bind {m : MA} {f : List D → Sto → RE} {ι : List Addr} {e : En} {S : Sto} {σ : L2.St} {H : Hp} {Q : VK} {T : List V → Hp → Prop} (r : Rel K cA B ι e S σ H)
    (h : PoE K cA W B ((m e S).bind f) ι σ H Q) (k : ∀ ι' vs H' ds S', Fr ι ι' H H' → Rel K cA B ι' e S' σ H' → RDs K B ι' H' ds vs → PoE K cA W B (f ds S') ι' σ H' Q → T vs H') : PoA K cA W B (m e S) ι σ H T := by
  unfold RA.bind at h
  cases q : m e S with
  | bad => rw [q] at h; exact h
  | exc c S' => rw [q] at h; exact h
  | ok d S' =>
    rw [q] at h
    intro ι' v H' fr rs rd
    refine k ι' v H' d S' fr (r.fr fr rs) rd ?_
    show PoE K cA W B (f d S') ι' σ H' Q
    change PoE K cA W B (f d S') ι σ H Q at h
    revert h
    cases f d S' with
    | bad => exact id
    | ok d2 S2 => exact fun h ι2 v2 H2 f2 r2 d2 => h ι2 v2 H2 (fr.trans f2) r2 d2
    | exc c S2 => exact fun h ι2 H2 f2 r2 => h ι2 H2 (fr.trans f2) r2
theorem poA_bindA {m : MA} {f : List D → Sto → RA} {ι : List Addr} {e : En} {S : Sto} {σ : L2.St} {H : Hp} {Q : List V → Hp → Prop} {T : List V → Hp → Prop} (r : Rel K cA B ι e S σ H)
    (h : PoA K cA W B ((m e S).bindA f) ι σ H Q) (k : ∀ ι' vs H' ds S', Fr ι ι' H H' → Rel K cA B ι' e S' σ H' → RDs K B ι' H' ds vs → PoA K cA W B (f ds S') ι' σ H' Q → T vs H') : PoA K cA W B (m e S) ι σ H T := by
  unfold RA.bindA at h
  cases q : m e S with
  | bad => rw [q] at h; exact h
  | exc c S' => rw [q] at h; exact h
  | ok d S' =>
    rw [q] at h
    intro ι' v H' fr rs rd
    refine k ι' v H' d S' fr (r.fr fr rs) rd ?_
    show PoA K cA W B (f d S') ι' σ H' Q
    change PoA K cA W B (f d S') ι σ H Q at h
    revert h
    cases f d S' with
    | bad => exact id
    | ok d2 S2 => exact fun h ι2 v2 H2 f2 r2 d2 => h ι2 v2 H2 (fr.trans f2) r2 d2
    | exc c S2 => exact fun h ι2 H2 f2 r2 => h ι2 H2 (fr.trans f2) r2
theorem poB_bind {m : MB} {f : Bool → Sto → RE} {ι : List Addr} {e : En} {S : Sto} {σ : L2.St} {H : Hp} {Q : VK} {T : Bool → Hp → Prop} (r : Rel K cA B ι e S σ H)
    (h : PoE K cA W B ((m e S).bind f) ι σ H Q) (k : ∀ ι' H' b S', Fr ι ι' H H' → Rel K cA B ι' e S' σ H' → PoE K cA W B (f b S') ι' σ H' Q → T b H') : PoB K cA W B (m e S) ι σ H T := by
  unfold RB.bind at h
  cases q : m e S with
  | bad => rw [q] at h; exact h
  | exc c S' => rw [q] at h; exact h
  | ok d S' =>
    rw [q] at h
    intro ι' H' fr rs
    refine k ι' H' d S' fr (r.fr fr rs) ?_
    show PoE K cA W B (f d S') ι' σ H' Q
    change PoE K cA W B (f d S') ι σ H Q at h
    revert h
    cases f d S' with
    | bad => exact id
    | ok d2 S2 => exact fun h ι2 v2 H2 f2 r2 d2 => h ι2 v2 H2 (fr.trans f2) r2 d2
    | exc c S2 => exact fun h ι2 H2 f2 r2 => h ι2 H2 (fr.trans f2) r2
theorem poB_bindB {m : MB} {f : Bool → Sto → RB} {ι : List Addr} {e : En} {S : Sto} {σ : L2.St} {H : Hp} {Q : Bool → Hp → Prop} {T : Bool → Hp → Prop} (r : Rel K cA B ι e S σ H)
    (h : PoB K cA W B ((m e S).bindB f) ι σ H Q) (k : ∀ ι' H' b S', Fr ι ι' H H' → Rel K cA B ι' e S' σ H' → PoB K cA W B (f b S') ι' σ H' Q → T b H') : PoB K cA W B (m e S) ι σ H T := by
  unfold RB.bindB at h
  cases q : m e S with
  | bad => rw [q] at h; exact h
  | exc c S' => rw [q] at h; exact h
  | ok d S' =>
    rw [q] at h
    intro ι' H' fr rs
    refine k ι' H' d S' fr (r.fr fr rs) ?_
    show PoB K cA W B (f d S') ι' σ H' Q
    change PoB K cA W B (f d S') ι σ H Q at h
    revert h
    cases f d S' with
    | bad => exact id
    | ok d2 S2 => exact fun h ι2 H2 f2 r2 => h ι2 H2 (fr.trans f2) r2
    | exc c S2 => exact fun h ι2 H2 f2 r2 => h ι2 H2 (fr.trans f2) r2
/-- statements: further on -/
theorem PoS.on {r : RS'} {ι ι' : List Addr} {H H' : Hp} {D' : Ends} (fr : Fr ι ι' H H') (h : PoS K cA W B r ι H D') : PoS K cA W B r ι' H' D' := by
  cases r with
  | bad => exact h
  | nx e S => exact fun ι2 σ2 H2 f2 r2 => h ι2 σ2 H2 (fr.trans f2) r2
  | brk e S => exact fun ι2 σ2 H2 f2 r2 => h ι2 σ2 H2 (fr.trans f2) r2
  | cont e S => exact fun ι2 σ2 H2 f2 r2 => h ι2 σ2 H2 (fr.trans f2) r2
  | ret d S => exact fun ι2 v2 H2 f2 r2 d2 => h ι2 v2 H2 (fr.trans f2) r2 d2
  | exc c e S => exact fun ι2 σ2 H2 f2 r2 => h ι2 σ2 H2 (fr.trans f2) r2
theorem po_bindS {m : ME} {f : D → Sto → RS'} {ι : List Addr} {e : En} {S : Sto} {σ : L2.St} {H : Hp} {D' : Ends} {T : VK} (r : Rel K cA B ι e S σ H)
    (h : PoS K cA W B ((m e S).bindS e f) ι H D') (k : ∀ ι' v H' d S', Fr ι ι' H H' → Rel K cA B ι' e S' σ H' → RD K B ι' H' d v → PoS K cA W B (f d S') ι' H' D' → T v H') : PoE K cA W B (m e S) ι σ H T := by
  unfold RE.bindS at h
  cases q : m e S with
  | bad => rw [q] at h; exact h
  | exc c S' => rw [q] at h; exact fun ι' H' fr rs => h ι' σ H' fr (r.fr fr rs)
  | ok d S' =>
    rw [q] at h
    intro ι' v H' fr rs rd
    exact k ι' v H' d S' fr (r.fr fr rs) rd (PoS.on fr h)
theorem poB_bindS {m : MB} {f : Bool → Sto → RS'} {ι : List Addr} {e : En} {S : Sto} {σ : L2.St} {H : Hp} {D' : Ends} {T : Bool → Hp → Prop} (r : Rel K cA B ι e S σ H)
    (h : PoS K cA W B ((m e S).bindS e f) ι H D') (k : ∀ ι' H' b S', Fr ι ι' H H' → Rel K cA B ι' e S' σ H' → PoS K cA W B (f b S') ι' H' D' → T b H') : PoB K cA W B (m e S) ι σ H T := by
  unfold RB.bindS at h
  cases q : m e S with
  | bad => rw [q] at h; exact h
  | exc c S' => rw [q] at h; exact fun ι' H' fr rs => h ι' σ H' fr (r.fr fr rs)
  | ok d S' =>
    rw [q] at h
    intro ι' H' fr rs
    exact k ι' H' d S' fr (r.fr fr rs) (PoS.on fr h)
end

section
variable {X : Cx} {cA : Str → Addr} {W : WX}
/-! ### the words of a term: the set end of a reading is handed on by its own relation -/
theorem tE.of {K : PySem.W.Frag} {B : Addr → Prop} {m : ME} {ι : List Addr} {e : En} {S : Sto} {σ : L2.St} {H : Hp} {Q : VK} (r : Rel K cA B ι e S σ H) (h : PoE K cA W B (m e S) ι σ H Q) : tE K cA W m σ H Q := ⟨B, ι, e, S, r, h⟩
theorem tA.of {K : PySem.W.Frag} {B : Addr → Prop} {m : MA} {ι : List Addr} {e : En} {S : Sto} {σ : L2.St} {H : Hp} {Q : List V → Hp → Prop} (r : Rel K cA B ι e S σ H) (h : PoA K cA W B (m e S) ι σ H Q) : tA K cA W m σ H Q := ⟨B, ι, e, S, r, h⟩
theorem tT.of {K : PySem.W.Frag} {B : Addr → Prop} {m : MB} {ι : List Addr} {e : En} {S : Sto} {σ : L2.St} {H : Hp} {Q : Bool → Hp → Prop} (r : Rel K cA B ι e S σ H) (h : PoB K cA W B (m e S) ι σ H Q) : tT K cA W m σ H Q := ⟨B, ι, e, S, r, h⟩
theorem tS.of {K : PySem.W.Frag} {B : Addr → Prop} {m : MS} {ι : List Addr} {e : En} {S : Sto} {σ : L2.St} {H : Hp} {D' : Ends} (r : Rel K cA B ι e S σ H) (h : PoS K cA W B (m e S) ι H D') : tS K cA W m D' σ H := ⟨B, ι, e, S, r, h⟩

/-! ### expressions -/
theorem q_v {e : Expr} {i : Nat} (h : PE X e (tVar i)) : PE X e (tE X.K cA W (eV i)) := PEi h fun σ H Q ⟨B, ι, e, S, r, p⟩ => by
  unfold eV at p
  split at p
  · rename_i d q
    obtain ⟨v, h1, h2⟩ := r.ev i d q
    exact ⟨v, h1, p ι v H Fr.refl r.rs h2⟩
  · exact p.elim
theorem q_c {e : Expr} {v : V} {d : D} (h : PE X e (tC v)) (k : ∀ B ι H, RD X.K B ι H d v) : PE X e (tE X.K cA W (eC d)) := PEi h fun σ H Q ⟨B, ι, e, S, r, p⟩ => p ι v H Fr.refl r.rs (k B ι H)
theorem q_int {i : Int} {j pos} : PE X (.Constant (.int i) j pos) (tE X.K cA W (eC (.int i))) := q_c pe_int fun _ _ _ => RD.mk_int
theorem q_bl {i : Bool} {j pos} : PE X (.Constant (.bool i) j pos) (tE X.K cA W (eC (.bl i))) := q_c pe_bl fun _ _ _ => RD.mk_bl
theorem q_str {i : Str} {j pos} : PE X (.Constant (.str i) j pos) (tE X.K cA W (eC (.str i))) := q_c pe_str fun _ _ _ => RD.mk_str
theorem q_non {j pos} : PE X (.Constant .none j pos) (tE X.K cA W (eC .non)) := q_c pe_non fun _ _ _ => RD.mk_non
theorem q_gint {x : Str} {i : Int} {pos : Pos} (hg : Gl X x) (h : ∃ t, X.mg x = some (.int i t)) (hd : (x == ("__debug__" : Str)) = false := by decide) : PE X (.Name x pos) (tE X.K cA W (eC (.int i))) :=
  let ⟨t, hm⟩ := h; q_c (v := .int i) (pe_glob hg hm ⟨t, rfl⟩ hd) fun _ _ _ => RD.mk_int
theorem q_gstr {x : Str} {i : Str} {pos : Pos} (hg : Gl X x) (h : ∃ t, X.mg x = some (.str i t)) (hd : (x == ("__debug__" : Str)) = false := by decide) : PE X (.Name x pos) (tE X.K cA W (eC (.str i))) :=
  let ⟨t, hm⟩ := h; q_c (v := .str i) (pe_glob hg hm ⟨t, rfl⟩ hd) fun _ _ _ => RD.mk_str

/-- an operator by values -/
structure O2 (X : Cx) (f : Value → Value → Sem Value) (g : Sto → D → D → Option D) : Prop where
  ex : ∃ r : R2, OpR X f r ∧ ∀ (cA : Str → Addr) (B : Addr → Prop) (ι : List Addr) (S : Sto) (H : Hp) (x y : V) (a b d : D) (Q : VK), RS X.K cA B ι S H → RD X.K B ι H a x → RD X.K B ι H b y → g S a b = some d →
    (∀ v H', Same H H' → RD X.K B ι H' d v → Q v H') → r x y H Q
variable {a b c : Expr} {ma mb mc : ME} {pos : Pos} {g : Sto → D → D → Option D}
theorem po_opt {K : PySem.W.Frag} {B : Addr → Prop} {o : Option D} {S : Sto} {ι : List Addr} {σ : L2.St} {H : Hp} {Q : VK} (h : PoE K cA W B (opt o S) ι σ H Q) (rs : RS K cA B ι S H) : ∃ d, o = some d ∧ ∀ v H', Same H H' → RD K B ι H' d v → Q v H' := by
  cases o with
  | none => exact h.elim
  | some d => exact ⟨d, rfl, fun v H' sm rd => h ι v H' (Fr.same sm) (rs.same sm) rd⟩
theorem use2 {f : Value → Value → Sem Value} {r : R2} (hr : ∀ (cA : Str → Addr) (B : Addr → Prop) (ι : List Addr) (S : Sto) (H : Hp) (x y : V) (a b d : D) (Q : VK), RS X.K cA B ι S H → RD X.K B ι H a x → RD X.K B ι H b y → g S a b = some d →
    (∀ v H', Same H H' → RD X.K B ι H' d v → Q v H') → r x y H Q) : ∀ σ H Q, tE X.K cA W (e2 g ma mb) σ H Q → tOp r (tE X.K cA W ma) (tE X.K cA W mb) σ H Q := fun σ H Q ⟨B, ι, e, S, re, p⟩ =>
  .of re (po_bind re p fun ι1 v1 H1 d1 S1 f1 r1 rd1 p1 => .of r1 (po_bind r1 p1 fun ι2 v2 H2 d2 S2 f2 r2 rd2 p2 => by
    obtain ⟨d, hd, q⟩ := po_opt p2 r2.rs
    exact hr cA B ι2 S2 H2 v1 v2 d1 d2 d Q r2.rs (RD.fr f2 _ _ rd1) rd2 hd q))
theorem q_op {op : Operator} (ho : O2 X (binaryOp op) g) (ha : PE X a (tE X.K cA W ma)) (hb : PE X b (tE X.K cA W mb)) : PE X (.BinOp a op b pos) (tE X.K cA W (e2 g ma mb)) :=
  let ⟨r, h1, h2⟩ := ho.ex; PEi (pe_op h1 ha hb) (use2 (f := binaryOp op) h2)
theorem q_cmp {op : CmpOp} (ho : O2 X (compareOp op) g) (ha : PE X a (tE X.K cA W ma)) (hb : PE X b (tE X.K cA W mb)) (hm : behindInMarks op b = false := by first | rfl | exact nomark _) : PE X (.Compare a [op] [b] pos) (tE X.K cA W (e2 g ma mb)) :=
  let ⟨r, h1, h2⟩ := ho.ex; PEi (pe_cmpR h1 ha hb hm) (use2 (f := compareOp op) h2)
theorem useT {t : TE} (h : ∀ σ H Q, tE X.K cA W ma σ H Q → t σ H Q) : ∀ σ H Q, tT X.K cA W (tOf ma) σ H Q → tTest t σ H Q := fun σ H Q ⟨B, ι, e, S, re, p⟩ =>
  h σ H _ (.of re (po_bindB re p fun ι1 v1 H1 d1 S1 f1 r1 rd1 p1 => by
    cases d1 with
    | bl k =>
      refine ⟨k, rd1.bl, p1 ι1 H1 Fr.refl r1.rs⟩
    | _ => exact p1.elim))
theorem k_cmp {op : CmpOp} (ho : O2 X (compareOp op) g) (ha : PE X a (tE X.K cA W ma)) (hb : PE X b (tE X.K cA W mb)) (hm : behindInMarks op b = false := by first | rfl | exact nomark _) : PT X (.Compare a [op] [b] pos) (tT X.K cA W (tOf (e2 g ma mb))) :=
  let ⟨r, h1, h2⟩ := ho.ex; PTi (pt_cmpR h1 ha hb hm) (useT (use2 (f := compareOp op) h2))
/-- an expression whose value is True or False, as a test -/
theorem k_val {e : Expr} (h : PE X e (tE X.K cA W ma)) (he : ∀ whole, isTrue e X.env whole = (do let v ← whole; standAt e.pos; holding [v] (truthy v)) := by intro _; rfl) : PT X e (tT X.K cA W (tOf ma)) :=
  PTi (pt_val h he) (useT fun _ _ _ h => h)
variable {xa xb : MB} {rest : List Expr}
theorem k_not (ha : PT X a (tT X.K cA W xa)) : PT X (.UnaryOp .Not a pos) (tT X.K cA W (tNo xa)) := PTi (pt_not ha) fun σ H Q ⟨B, ι, e, S, re, p⟩ =>
  .of re (poB_bindB re p fun ι1 H1 b S1 f1 r1 p1 => p1 ι1 H1 Fr.refl r1.rs)
theorem w_and1 (ha : PT X a (tT X.K cA W xa)) : PW X (.BoolOp .And [a] pos) (tT X.K cA W xa) := pw_and1 ha
theorem w_or1 (ha : PT X a (tT X.K cA W xa)) : PW X (.BoolOp .Or [a] pos) (tT X.K cA W xa) := pw_or1 ha
theorem w_and (ha : PT X a (tT X.K cA W xa)) (hb : PW X (.BoolOp .And (b :: rest) pos) (tT X.K cA W xb)) : PW X (.BoolOp .And (a :: b :: rest) pos) (tT X.K cA W (tAn xa xb)) := PWi (pw_and ha hb) fun σ H Q ⟨B, ι, e, S, re, p⟩ =>
  .of re (poB_bindB re p fun ι1 H1 b S1 f1 r1 p1 => by
    cases b with
    | true => exact .of r1 p1
    | false => exact p1 ι1 H1 Fr.refl r1.rs)
theorem w_or (ha : PT X a (tT X.K cA W xa)) (hb : PW X (.BoolOp .Or (b :: rest) pos) (tT X.K cA W xb)) : PW X (.BoolOp .Or (a :: b :: rest) pos) (tT X.K cA W (tO xa xb)) := PWi (pw_or ha hb) fun σ H Q ⟨B, ι, e, S, re, p⟩ =>
  .of re (poB_bindB re p fun ι1 H1 b S1 f1 r1 p1 => by
    cases b with
    | false => exact .of r1 p1
    | true => exact p1 ι1 H1 Fr.refl r1.rs)
theorem q_if {t : Expr} (ht : PT X t (tT X.K cA W xa)) (ha : PE X a (tE X.K cA W ma)) (hb : PE X b (tE X.K cA W mb)) : PE X (.IfExp t a b pos) (tE X.K cA W (eIf xa ma mb)) := PEi (pe_ifExp ht ha hb) fun σ H Q ⟨B, ι, e, S, re, p⟩ =>
  .of re (poB_bind re p fun ι1 H1 b S1 f1 r1 p1 => by
    cases b with
    | true => exact .of r1 p1
    | false => exact .of r1 p1)
theorem q_not (ha : PE X a (tE X.K cA W ma)) : PE X (.UnaryOp .Not a pos) (tE X.K cA W (eNo ma)) := PEi (pe_not ha) fun σ H Q ⟨B, ι, e, S, re, p⟩ =>
  .of re (po_bind re p fun ι1 v1 H1 d1 S1 f1 r1 rd1 p1 => by
    cases d1 with
    | bl k => exact ⟨k, rd1.bl, p1 ι1 _ H1 Fr.refl r1.rs RD.mk_bl⟩
    | _ => exact p1.elim)
theorem q_one {op : BoolOp} (ha : PE X a (tE X.K cA W ma)) : PE X (.BoolOp op [a] pos) (tE X.K cA W ma) := pe_one ha
theorem q_and (ha : PE X a (tE X.K cA W ma)) (hb : PE X (.BoolOp .And (b :: rest) pos) (tE X.K cA W mb)) : PE X (.BoolOp .And (a :: b :: rest) pos) (tE X.K cA W (eAn ma mb)) := PEi (pe_and ha hb) fun σ H Q ⟨B, ι, e, S, re, p⟩ =>
  .of re (po_bind re p fun ι1 v1 H1 d1 S1 f1 r1 rd1 p1 => by
    cases d1 with
    | bl k =>
      refine ⟨k, rd1.bl, ?_⟩
      cases k with
      | true => exact .of r1 p1
      | false => exact p1 ι1 _ H1 Fr.refl r1.rs RD.mk_bl
    | _ => exact p1.elim)
theorem q_or (ha : PE X a (tE X.K cA W ma)) (hb : PE X (.BoolOp .Or (b :: rest) pos) (tE X.K cA W mb)) : PE X (.BoolOp .Or (a :: b :: rest) pos) (tE X.K cA W (eO ma mb)) := PEi (pe_or ha hb) fun σ H Q ⟨B, ι, e, S, re, p⟩ =>
  .of re (po_bind re p fun ι1 v1 H1 d1 S1 f1 r1 rd1 p1 => by
    cases d1 with
    | bl k =>
      refine ⟨k, rd1.bl, ?_⟩
      cases k with
      | false => exact .of r1 p1
      | true => exact p1 ι1 _ H1 Fr.refl r1.rs RD.mk_bl
    | _ => exact p1.elim)
variable {es : List Expr} {xs : MA}
theorem a_nil : PA X [] (tA X.K cA W aN) := PAi pa_nil fun σ H Q ⟨B, ι, e, S, re, p⟩ => p ι [] H Fr.refl re.rs RDs.nil
theorem a_cons (ha : PE X a (tE X.K cA W ma)) (hr : PA X es (tA X.K cA W xs)) (hs : starEach (a :: es) X.env = (false, eval a X.env) :: starEach es X.env := by rfl) : PA X (a :: es) (tA X.K cA W (aC ma xs)) := PAi (pa_cons ha hr hs) fun σ H Q ⟨B, ι, e, S, re, p⟩ =>
  .of re (po_bindA re p fun ι1 v1 H1 d1 S1 f1 r1 rd1 p1 => .of r1 (poA_bindA r1 p1 fun ι2 vs2 H2 ds2 S2 f2 r2 rd2 p2 => p2 ι2 _ H2 Fr.refl r2.rs (.cons (RD.fr f2 _ _ rd1) rd2)))
theorem sizeL : (sizeLine : Nat) = 16777216 := sizeLine_eq
theorem same_new {H : Hp} {p : Addr} {o : HO} (h : H p = none) : Same H (upd H p o) := fun b x e => by
  rw [upd_ne (ne_of_none e h)]
  exact e
theorem not_B {K : PySem.W.Frag} {B : Addr → Prop} {ι : List Addr} {S : Sto} {H : Hp} (r : RS K cA B ι S H) {p : Addr} (h : H p = none) : ¬ B p := fun m => by
  obtain ⟨_, o, e⟩ := r.nB p m
  rw [h] at e; cases e
theorem not_in {K : PySem.W.Frag} {B : Addr → Prop} {ι : List Addr} {S : Sto} {H : Hp} (r : RS K cA B ι S H) {p : Addr} (h : H p = none) : p ∉ ι := fun m => by
  obtain ⟨o, e⟩ := r.there m
  rw [h] at e; cases e
end
end DL

/-! The data layer: operators. -/
namespace DL
open PySem PySem.Spec PyProof.Rows L2

def view (S : Sto) : D → D
  | .obj n => match S[n]? with
    | some (.lst ds) => .lst ds
    | some (.dct ks ds) => .dct ks ds
    | _ => .obj n
  | .scr ds => .lst ds
  | d => d
/-- not a list of the module -/
def noS : D → Bool
  | .scr _ => false
  | _ => true
section
variable {X : Cx} {K : PySem.W.Frag} {cA : Str → Addr} {W : WX} {B : Addr → Prop} {ι : List Addr} {S : Sto} {H : Hp}
theorem v_lstR (rs : RS K cA B ι S H) {d : D} {v : V} {ds : List D} (rd : RD K B ι H d v) (e : view S d = .lst ds) (hn : noS d = true) : ∃ a xs, v = .ref a ∧ Rd H a (.lst xs) ∧ RDs K B ι H ds xs := by
  cases d with
  | obj n =>
    rw [view] at e
    split at e
    · rename_i es q
      cases e
      obtain ⟨a, h1, xs, h2, h3⟩ := rs.at_ n _ q
      obtain ⟨a', rfl, h4⟩ := rd.obj
      rw [h1] at h4; cases h4
      exact ⟨a, xs, rfl, .inl h2, h3⟩
    · cases e
    · cases e
  | lst es =>
    cases e
    obtain ⟨a, xs, rfl, h, r⟩ := rd.lst
    exact ⟨a, xs, rfl, h.2.2, r⟩
  | scr es => cases hn
  | _ => cases e
theorem v_lst (rs : RS K cA B ι S H) {d : D} {v : V} {ds : List D} (rd : RD K B ι H d v) (e : view S d = .lst ds) : ∃ a xs, v = .ref a ∧ SqL K H a xs ∧ RDs K B ι H ds xs := by
  by_cases hn : noS d = true
  · obtain ⟨a, xs, h1, h2, h3⟩ := v_lstR rs rd e hn
    exact ⟨a, xs, h1, .inl h2, h3⟩
  · cases d with
    | scr es =>
      cases e
      obtain ⟨a, xs, rfl, h, r⟩ := rd.scr
      exact ⟨a, xs, rfl, h.sq, r⟩
    | _ => exact absurd rfl hn
theorem v_dct (rs : RS K cA B ι S H) {d : D} {v : V} {ks : List Key} {ds : List D} (rd : RD K B ι H d v) (e : view S d = .dct ks ds) : ∃ a xs, v = .ref a ∧ H a = some (.dK (ks.zip xs)) ∧ ks.length = xs.length ∧ RDs K B ι H ds xs := by
  cases d with
  | obj n =>
    rw [view] at e
    split at e
    · cases e
    · rename_i es q
      cases e
      obtain ⟨a, h1, xs, h2, h3, h5⟩ := rs.at_ n _ q
      obtain ⟨a', rfl, h4⟩ := rd.obj
      rw [h1] at h4; cases h4
      exact ⟨a, xs, rfl, h2, h3, h5⟩
    · cases e
  | dct ks' es =>
    cases e
    obtain ⟨a, xs, rfl, h1, h2, h3, h4, r⟩ := rd.dct
    exact ⟨a, xs, rfl, h3, h4, r⟩
  | _ => cases e
theorem view_ne {d : D} {r : D} (e : view S d = r) (h1 : ∀ ds, r ≠ .lst ds) (h2 : ∀ ks ds, r ≠ .dct ks ds) : d = r := by
  cases d with
  | obj n =>
    rw [view] at e
    split at e
    · exact absurd e.symm (h1 _)
    · exact absurd e.symm (h2 _ _)
    · exact e
  | scr ds => exact absurd e.symm (h1 _)
  | _ => exact e
theorem v_int {d : D} {v : V} {i : Int} (rd : RD K B ι H d v) (e : view S d = .int i) : v = .int i := by
  have := view_ne e (by intro _ z; cases z) (by intro _ _ z; cases z); subst this; exact rd.int
theorem v_str {d : D} {v : V} {i : Str} (rd : RD K B ι H d v) (e : view S d = .str i) : v = .str i := by
  have := view_ne e (by intro _ z; cases z) (by intro _ _ z; cases z); subst this; exact rd.str
theorem v_bl {d : D} {v : V} {i : Bool} (rd : RD K B ι H d v) (e : view S d = .bl i) : v = .bl i := by
  have := view_ne e (by intro _ z; cases z) (by intro _ _ z; cases z); subst this; exact rd.bl
theorem v_non {d : D} {v : V} (rd : RD K B ι H d v) (e : view S d = .non) : v = .non := by
  have := view_ne e (by intro _ z; cases z) (by intro _ _ z; cases z); subst this; exact rd.non
theorem v_tup {d : D} {v : V} {ds : List D} (rd : RD K B ι H d v) (e : view S d = .tup ds) : ∃ a xs, v = .ref a ∧ FT K B ι H a xs ∧ RDs K B ι H ds xs := by
  have := view_ne e (by intro _ z; cases z) (by intro _ _ z; cases z); subst this; exact rd.tup

/-- a new thing that stands still -/
theorem new_tup (rs : RS K cA B ι S H) {p : Addr} (np : H p = none) {ds : List D} {xs : List V} (r : RDs K B ι H ds xs) : RD K B ι (upd H p (.tup xs)) (.tup ds) (.ref p) :=
  .mk_tup (.inl ⟨not_in rs np, not_B rs np, .inl upd_same⟩) (RDs.fr (Fr.same (same_new np)) _ _ r)
theorem new_lst (rs : RS K cA B ι S H) {p : Addr} (np : H p = none) {ds : List D} {xs : List V} (r : RDs K B ι H ds xs) : RD K B ι (upd H p (.lst xs)) (.lst ds) (.ref p) :=
  .mk_lst ⟨not_in rs np, not_B rs np, .inl upd_same⟩ (RDs.fr (Fr.same (same_new np)) _ _ r)
theorem same_refl : Same H H := fun _ _ e => e

/-! ### arithmetic -/
theorem o_mk {f : Value → Value → Sem Value} {g : Sto → D → D → Option D} {r : R2} (h : OpR X f r) (k : ∀ (cA : Str → Addr) (B : Addr → Prop) (ι : List Addr) (S : Sto) (H : Hp) (x y : V) (a b d : D) (Q : VK), RS X.K cA B ι S H → RD X.K B ι H a x → RD X.K B ι H b y → g S a b = some d →
    (∀ v H', Same H H' → RD X.K B ι H' d v → Q v H') → r x y H Q) : O2 X f g := ⟨r, h, k⟩

/-- list + list -/
def rCatL : R2 := fun x y H Q => ∃ l b xs zs, x = .ref l ∧ y = .ref b ∧ Rd H l (.lst xs) ∧ Rd H b (.lst zs) ∧ xs.length + zs.length ≤ sizeLine ∧ ∀ p, H p = none → Q (.ref p) (upd H p (.lst (xs ++ zs)))
theorem lstR {pins : List (Addr × Obj)} {σ : L2.St} {H : Hp} {s : Shared} {p : Addr} {xs : List V} (I : Inv X pins σ H s) (h : Rd H p (.lst xs)) :
    ∃ (its : List Value) (n : Nat), Vals xs its ∧ xs.length = its.length ∧ s.heap.get? p = some { cls := .type "list", data := .seq its.toArray n } := by
  obtain ⟨_, its, n, r, e⟩ := h.ok I.hok
  exact ⟨its, n, r, r.length, e⟩
theorem op_catL : OpR X (binaryOp .Add) rCatL := by
  intro pins s σ H x y v u Q I rx ry h
  obtain ⟨l, b, xs, zs, rfl, rfl, hH, hB, hz, q⟩ := h
  cases rx
  cases ry
  obtain ⟨its, n, r, hl, e⟩ := lstR I hH
  obtain ⟨its2, n2, r2, hl2, e2⟩ := lstR I hB
  refine PySem.P.add_list e e2 ?_ (by rw [List.size_toArray, List.size_toArray]; omega)
  have ea : its.toArray ++ its2.toArray = (its ++ its2).toArray := by simp
  rw [ea]
  exact ⟨.ref _, _, I.lnew (t' := s.toks) (r.append r2) (by rw [List.length_append]; omega), rfl, q _ I.fresh⟩

def gAdd (S : Sto) (a b : D) : Option D := match view S a, view S b with
  | .int i, .int j => some (.int (i + j))
  | .str x, .str y => if x.length + y.length ≤ 16777216 then some (.str (x ++ y)) else none
  | .tup xs, .tup ys => if xs.length + ys.length ≤ 16777216 then some (.tup (xs ++ ys)) else none
  | .lst xs, .lst ys => if (xs.length + ys.length ≤ 16777216 ∧ noS a = true) ∧ noS b = true then some (.lst (xs ++ ys)) else none
  | _, _ => none
theorem o_add : O2 X (binaryOp .Add) gAdd := o_mk (op_add.or (op_add_str.or (op_catA.or op_catL))) fun cA B ι S H x y a b d Q rs ra rb hg q => by
  unfold gAdd at hg
  split at hg
  · rename_i i j e1 e2
    cases hg
    exact .inl ⟨i, j, v_int ra e1, v_int rb e2, q _ H same_refl RD.mk_int⟩
  · rename_i i j e1 e2
    split at hg
    · rename_i hz
      cases hg
      exact .inr (.inl ⟨i, j, v_str ra e1, v_str rb e2, by rw [sizeL]; exact hz, q _ H same_refl RD.mk_str⟩)
    · cases hg
  · rename_i xs ys e1 e2
    split at hg
    · rename_i hz
      cases hg
      obtain ⟨p, us, rfl, h1, r1⟩ := v_tup ra e1
      obtain ⟨p2, us2, rfl, h2, r2⟩ := v_tup rb e2
      refine .inr (.inr (.inl ⟨p, p2, us, us2, rfl, rfl, h1.sq, h2.sq, by rw [sizeL, ← r1.len, ← r2.len]; exact hz, fun z => ?_, fun _ z => ?_, fun _ _ n np => ?_⟩))
      · subst z
        have : xs = [] := by
          have := r1.len
          cases xs with
          | nil => rfl
          | cons _ _ => simp at this
        subst this
        exact q _ H same_refl (.mk_tup h2 r2)
      · subst z
        have : ys = [] := by
          have := r2.len
          cases ys with
          | nil => rfl
          | cons _ _ => simp at this
        subst this
        exact q _ H same_refl (by rw [List.append_nil]; exact .mk_tup h1 r1)
      · exact q _ _ (same_new np) (new_tup rs np (r1.append r2))
    · cases hg
  · rename_i xs ys e1 e2
    split at hg
    · rename_i hz
      cases hg
      obtain ⟨p, us, rfl, h1, r1⟩ := v_lstR rs ra e1 hz.1.2
      obtain ⟨p2, us2, rfl, h2, r2⟩ := v_lstR rs rb e2 hz.2
      exact .inr (.inr (.inr ⟨p, p2, us, us2, rfl, rfl, h1, h2, by rw [sizeL, ← r1.len, ← r2.len]; exact hz.1.1, fun n np => q _ _ (same_new np) (new_lst rs np (r1.append r2))⟩))
    · cases hg
  · cases hg
def gSub (S : Sto) (a b : D) : Option D := match a, b with
  | .int i, .int j => some (.int (i - j))
  | _, _ => none
theorem o_sub : O2 X (binaryOp .Sub) gSub := o_mk op_sub fun cA B ι S H x y a b d Q rs ra rb hg q => by
  unfold gSub at hg
  split at hg
  · cases hg
    exact ⟨_, _, ra.int, rb.int, q _ H same_refl RD.mk_int⟩
  · cases hg
/-- text * n -/
def srep (x : Str) (n : Nat) : Str := ⟨(List.replicate n x.cps.toList).flatten.toArray⟩
theorem foldl_arr (a : Array Nat) : ∀ (n : Nat) (acc : Array Nat), ((List.replicate n a).foldl (· ++ ·) acc).toList = acc.toList ++ (List.replicate n a.toList).flatten
  | 0, acc => by simp
  | n + 1, acc => by
    rw [List.replicate_succ, List.foldl_cons, foldl_arr a n, List.replicate_succ, List.flatten_cons, Array.toList_append, List.append_assoc]
theorem mul_srep (x : Str) (n : Int) : Txt.mul x n = srep x n.toNat := by
  have ext : ∀ a b : Str, a.cps.toList = b.cps.toList → a = b := fun a b h => by
    cases a; cases b; exact congrArg Str.mk (Array.toList_inj.mp h)
  unfold Txt.mul srep
  by_cases h1 : n < 1
  · rw [if_pos h1]
    have : n.toNat = 0 := by omega
    rw [this]; rfl
  · rw [if_neg h1]
    by_cases h2 : (n == 1 || x.length == 0) = true
    · rw [if_pos h2]
      apply ext
      rw [Bool.or_eq_true, beq_iff_eq, beq_iff_eq] at h2
      rcases h2 with rfl | h2
      · simp
      · have : x.cps.toList = [] := by
          apply List.eq_nil_of_length_eq_zero
          rw [Array.length_toList]; exact h2
        simp [this]
    · rw [if_neg h2]
      apply ext
      rw [foldl_arr]; simp
theorem srep_length (x : Str) (n : Nat) : (srep x n).length = n * x.length := by
  show ((List.replicate n x.cps.toList).flatten.toArray).size = _
  rw [List.size_toArray, List.length_flatten, List.map_replicate, List.sum_replicate_nat, Array.length_toList]; rfl
def rRepS : R2 := fun x y H Q => ∃ z k, x = .str z ∧ y = .int k ∧ k < 2 ^ 31 ∧ -(2 ^ 31) < k ∧ k.toNat * z.length ≤ 16777216 ∧ Q (.str (srep z k.toNat)) H
theorem op_repS : OpR X (binaryOp .Mult) rRepS := by
  intro pins s σ H x y v u Q I rx ry h
  obtain ⟨z, k, rfl, rfl, hk, hk2, hz, q⟩ := h
  obtain ⟨t, rfl⟩ := rx
  obtain ⟨t', rfl⟩ := ry
  refine SB.mul ⟨?_, fun h1 h2 => ?_, fun h1 h2 => ?_⟩ fun t2 k2 => ⟨.str _, H, I.tok _, ⟨_, by rw [mul_srep]⟩, q⟩
  · rw [Bool.or_eq_false_iff]
    exact ⟨decide_eq_false (by omega), decide_eq_false (by omega)⟩
  · have hk0 : 0 < k := by omega
    have e : (k.toNat : Int) = k := by omega
    have : (z.length : Int) * k ≤ 16777216 := by
      have : ((k.toNat * z.length : Nat) : Int) ≤ 16777216 := Int.ofNat_le.mpr hz
      rw [Int.natCast_mul, e, Int.mul_comm] at this
      exact this
    have : (z.length : Int) ≤ 16777216 / k := (Int.le_ediv_iff_mul_le hk0).mpr this
    have : (16777216 : Int) / k ≤ (2 ^ 63 - 1) / k := Int.ediv_le_ediv hk0 (by decide)
    omega
  · unfold Builtin.Str.tooLong
    refine decide_eq_false ?_
    rw [sizeL, Nat.mul_comm]
    omega
def gMul (S : Sto) (a b : D) : Option D := match view S a, view S b with
  | .int i, .int j => if (-(2 ^ 64) < i ∧ i < 2 ^ 64) ∨ (-(2 ^ 64) < j ∧ j < 2 ^ 64) then some (.int (i * j)) else none
  | .str x, .int k => if k < 2 ^ 31 ∧ -(2 ^ 31) < k ∧ k.toNat * x.length ≤ 16777216 then some (.str (srep x k.toNat)) else none
  | .tup xs, .int k => if xs ≠ [] ∧ 2 ≤ k ∧ k ≤ 1000 ∧ xs.length ≤ 1000 then some (.tup (List.replicate k.toNat xs).flatten) else none
  | _, _ => none
theorem RDs.rep {ds : List D} {xs : List V} (r : RDs K B ι H ds xs) : ∀ n, RDs K B ι H (List.replicate n ds).flatten (List.replicate n xs).flatten
  | 0 => RDs.nil
  | n + 1 => by rw [List.replicate_succ, List.replicate_succ, List.flatten_cons, List.flatten_cons]; exact r.append (RDs.rep r n)
end
end DL

/-! The data layer: more operators, comparisons, places, builtins. -/
namespace DL
open PySem PySem.Spec PyProof.Rows L2
section
variable {X : Cx} {K : PySem.W.Frag} {cA : Str → Addr} {W : WX} {B : Addr → Prop} {ι : List Addr} {S : Sto} {H : Hp}
theorem o_mul : O2 X (binaryOp .Mult) gMul := o_mk (op_mul.or (op_repS.or op_repT)) fun cA B ι S H x y a b d Q rs ra rb hg q => by
  unfold gMul at hg
  split at hg
  · rename_i i j e1 e2
    split at hg
    · rename_i hz
      cases hg
      exact .inl ⟨i, j, v_int ra e1, v_int rb e2, hz, q _ H same_refl RD.mk_int⟩
    · cases hg
  · rename_i i j e1 e2
    split at hg
    · rename_i hz
      cases hg
      exact .inr (.inl ⟨i, j, v_str ra e1, v_int rb e2, hz.1, hz.2.1, hz.2.2, q _ H same_refl RD.mk_str⟩)
    · cases hg
  · rename_i xs k e1 e2
    split at hg
    · rename_i hz
      cases hg
      obtain ⟨p, us, rfl, h1, r1⟩ := v_tup ra e1
      refine .inr (.inr ⟨p, k, us, rfl, v_int rb e2, h1.sq, fun z => ?_, hz.2.1, hz.2.2.1, by rw [← r1.len]; exact hz.2.2.2, fun n np => q _ _ (same_new np) (new_tup rs np (r1.rep _))⟩)
      subst z
      refine hz.1 ?_
      have := r1.len
      cases xs with
      | nil => rfl
      | cons _ _ => simp at this
    · cases hg
  · cases hg
def gFdiv (S : Sto) (a b : D) : Option D := match a, b with
  | .int i, .int j => if 0 < j ∧ j < 1073741824 then some (.int (i / j)) else none
  | _, _ => none
theorem o_fdiv : O2 X (binaryOp .FloorDiv) gFdiv := o_mk op_fdiv fun cA B ι S H x y a b d Q rs ra rb hg q => by
  unfold gFdiv at hg
  split at hg
  · split at hg
    · rename_i hz
      cases hg
      exact ⟨_, _, ra.int, rb.int, hz, q _ H same_refl RD.mk_int⟩
    · cases hg
  · cases hg
def gMod (S : Sto) (a b : D) : Option D := match a, b with
  | .int i, .int j => if 0 < j then some (.int (i % j)) else none
  | _, _ => none
theorem o_mod : O2 X (binaryOp .Mod) gMod := o_mk op_mod fun cA B ι S H x y a b d Q rs ra rb hg q => by
  unfold gMod at hg
  split at hg
  · split at hg
    · rename_i hz
      cases hg
      exact ⟨_, _, ra.int, rb.int, hz, q _ H same_refl RD.mk_int⟩
    · cases hg
  · cases hg
def gPow (S : Sto) (a b : D) : Option D := match a, b with
  | .int i, .int j => if 0 ≤ j ∧ j ≤ 1000000 ∧ i.natAbs < 2 ^ 64 then some (.int (i ^ j.toNat)) else none
  | _, _ => none
theorem o_pow : O2 X (binaryOp .Pow) gPow := o_mk op_pow fun cA B ι S H x y a b d Q rs ra rb hg q => by
  unfold gPow at hg
  split at hg
  · split at hg
    · rename_i hz
      cases hg
      exact ⟨_, _, ra.int, rb.int, hz, q _ H same_refl RD.mk_int⟩
    · cases hg
  · cases hg

/-! ### comparisons -/
def gI (p : Int → Int → Bool) (S : Sto) (a b : D) : Option D := match a, b with
  | .int i, .int j => some (.bl (p i j))
  | _, _ => none
theorem o_I {f : Value → Value → Sem Value} {p : Int → Int → Bool} (h : OpR X f (rI0 fun i j => .bl (p i j))) : O2 X f (gI p) := o_mk h fun cA B ι S H x y a b d Q rs ra rb hg q => by
  unfold gI at hg
  split at hg
  · cases hg
    exact ⟨_, _, ra.int, rb.int, q _ H same_refl RD.mk_bl⟩
  · cases hg
def iLt (i j : Int) : Bool := decide (i < j)
def iLe (i j : Int) : Bool := decide (i ≤ j)
def iGt (i j : Int) : Bool := decide (j < i)
def iGe (i j : Int) : Bool := decide (j ≤ i)
theorem o_gtI : O2 X (compareOp .Gt) (gI iGt) := o_I op_gt
theorem o_geI : O2 X (compareOp .GtE) (gI iGe) := o_I op_ge
/-- <, <= of numbers, of one sign texts -/
def gLt (S : Sto) (a b : D) : Option D := match a, b with
  | .int i, .int j => some (.bl (decide (i < j)))
  | .str x, .str y => some (.bl (decide (x.cps.toList < y.cps.toList)))
  | _, _ => none
theorem o_lt : O2 X (compareOp .Lt) gLt := o_mk (op_lt.or op_lt_str) fun cA B ι S H x y a b d Q rs ra rb hg q => by
  unfold gLt at hg
  split at hg
  · cases hg
    exact .inl ⟨_, _, ra.int, rb.int, q _ H same_refl RD.mk_bl⟩
  · cases hg
    exact .inr ⟨_, _, ra.str, rb.str, q _ H same_refl RD.mk_bl⟩
  · cases hg
def gLe (S : Sto) (a b : D) : Option D := match a, b with
  | .int i, .int j => some (.bl (decide (i ≤ j)))
  | .str x, .str y => some (.bl (!decide (y.cps.toList < x.cps.toList)))
  | _, _ => none
theorem o_le : O2 X (compareOp .LtE) gLe := o_mk (op_le.or op_le_str) fun cA B ι S H x y a b d Q rs ra rb hg q => by
  unfold gLe at hg
  split at hg
  · cases hg
    exact .inl ⟨_, _, ra.int, rb.int, q _ H same_refl RD.mk_bl⟩
  · cases hg
    exact .inr ⟨_, _, ra.str, rb.str, q _ H same_refl RD.mk_bl⟩
  · cases hg

/-! ### == -/
mutual
def pd : D → Option PyData
  | .non => some .none
  | .bl b => some (.bool b)
  | .int i => some (.int i)
  | .str x => some (.str x)
  | .tup ds => (pds ds).map .tuple
  | .lst ds => (pds ds).map .list
  | .dct _ _ => none
  | .obj _ => none
  | .scr ds => (pds ds).map .list
def pds : List D → Option (List PyData)
  | [] => some []
  | d :: ds => match pd d, pds ds with | some x, some xs => some (x :: xs) | _, _ => none
end
mutual
theorem pd_dp : ∀ (d : D) (v : V) (p : PyData), RD K B ι H d v → pd d = some p → Dp K H v p
  | .non, v, p, h, e => by rw [pd] at e; cases e; rw [h.non]; exact .non
  | .bl b, v, p, h, e => by rw [pd] at e; cases e; rw [h.bl]; exact .bl b
  | .int b, v, p, h, e => by rw [pd] at e; cases e; rw [h.int]; exact .int b
  | .str b, v, p, h, e => by rw [pd] at e; cases e; rw [h.str]; exact .str b
  | .tup ds, v, p, h, e => by
    rw [pd] at e
    cases q : pds ds with
    | none => rw [q] at e; cases e
    | some ps =>
      rw [q] at e; cases e
      obtain ⟨a, xs, rfl, h1, r⟩ := h.tup
      exact .tup h1.sq (pds_dp ds xs ps r q)
  | .lst ds, v, p, h, e => by
    rw [pd] at e
    cases q : pds ds with
    | none => rw [q] at e; cases e
    | some ps =>
      rw [q] at e; cases e
      obtain ⟨a, xs, rfl, h1, r⟩ := h.lst
      exact .lst h1.sq (pds_dp ds xs ps r q)
  | .dct _ _, v, p, h, e => by rw [pd] at e; cases e
  | .obj _, v, p, h, e => by rw [pd] at e; cases e
  | .scr ds, v, p, h, e => by
    rw [pd] at e
    cases q : pds ds with
    | none => rw [q] at e; cases e
    | some ps =>
      rw [q] at e; cases e
      obtain ⟨a, xs, rfl, h1, r⟩ := h.scr
      exact .lst h1.sq (pds_dp ds xs ps r q)
theorem pds_dp : ∀ (ds : List D) (vs : List V) (ps : List PyData), RDs K B ι H ds vs → pds ds = some ps → DpAll K H vs ps
  | [], vs, ps, h, e => by rw [pds] at e; cases e; rw [h.nil_inv]; exact .nil
  | d :: ds, vs, ps, h, e => by
    rw [pds] at e
    obtain ⟨v, r, rfl, h1, h2⟩ := h.cons_inv
    cases q1 : pd d with
    | none => rw [q1] at e; cases e
    | some p1 =>
      cases q2 : pds ds with
      | none => rw [q1, q2] at e; cases e
      | some p2 =>
        rw [q1, q2] at e; cases e
        exact .cons (pd_dp d v p1 h1 q1) (pds_dp ds r p2 h2 q2)
end
theorem view_dp (rs : RS K cA B ι S H) {d : D} {v : V} {p : PyData} (h : RD K B ι H d v) (e : pd (view S d) = some p) : Dp K H v p := by
  cases q : view S d with
  | lst ds =>
    rw [q, pd] at e
    cases q2 : pds ds with
    | none => rw [q2] at e; cases e
    | some ps =>
      rw [q2] at e; cases e
      obtain ⟨a, xs, rfl, h1, r⟩ := v_lst rs h q
      exact .lst h1 (pds_dp ds xs ps r q2)
  | dct ks ds => rw [q, pd] at e; cases e
  | obj n => rw [q, pd] at e; cases e
  | _ =>
    have := view_ne q (by intro _ z; cases z) (by intro _ _ z; cases z)
    subst this
    rw [q] at e
    exact pd_dp _ _ _ h e
def fla : D → Option V
  | .non => some .non | .bl b => some (.bl b) | .int i => some (.int i) | .str x => some (.str x) | _ => none
theorem fla_V {a : D} {x v : V} (ra : RD K B ι H a x) (h : fla a = some v) : x = v ∧ flatV x = true := by
  cases a with
  | non => cases h; rw [ra.non]; exact ⟨rfl, rfl⟩
  | bl j => cases h; rw [ra.bl]; exact ⟨rfl, rfl⟩
  | int j => cases h; rw [ra.int]; exact ⟨rfl, rfl⟩
  | str j => cases h; rw [ra.str]; exact ⟨rfl, rfl⟩
  | _ => cases h
/-- equal? -/
def deq0 (a b : D) : Option Bool := match pd a, pd b with
  | some d, some e => if SeqAt.shaped d = true ∧ SeqAt.shaped e = true then some (PyData.eqv d e) else none
  | _, _ => none
def deq (a b : D) : Option Bool := match fla a, fla b with
  | some x, some y => if scal x y = true then some (decide (x = y)) else deq0 a b
  | _, _ => deq0 a b
def gEq (S : Sto) (a b : D) : Option D := (deq (view S a) (view S b)).map .bl
def gNe (S : Sto) (a b : D) : Option D := (deq (view S a) (view S b)).map fun k => .bl (!k)
theorem deq_dp (rs : RS K cA B ι S H) {a b : D} {x y : V} {k : Bool} (ra : RD K B ι H a x) (rb : RD K B ι H b y) (h : deq (view S a) (view S b) = some k) :
    (scal x y = true ∧ decide (x = y) = k) ∨ ∃ d e, Dp K H x d ∧ Dp K H y e ∧ SeqAt.shaped d = true ∧ SeqAt.shaped e = true ∧ PyData.eqv d e = k := by
  have deep : deq0 (view S a) (view S b) = some k → ∃ d e, Dp K H x d ∧ Dp K H y e ∧ SeqAt.shaped d = true ∧ SeqAt.shaped e = true ∧ PyData.eqv d e = k := fun h => by
    unfold deq0 at h
    split at h
    · rename_i d e h1 h2
      split at h
      · rename_i hs
        exact ⟨d, e, view_dp rs ra h1, view_dp rs rb h2, hs.1, hs.2, Option.some.inj h⟩
      · cases h
    · cases h
  have vf : ∀ {c : D} {z v : V}, RD K B ι H c z → fla (view S c) = some v → z = v := fun {c z v} r q => by
    cases e : view S c with
    | lst _ => rw [e] at q; cases q
    | dct _ _ => rw [e] at q; cases q
    | _ =>
      have := view_ne e (by intro _ z; cases z) (by intro _ _ z; cases z)
      subst this
      rw [e] at q
      exact (fla_V r q).1
  unfold deq at h
  split at h
  · rename_i u v h1 h2
    split at h
    · rename_i hs
      have := vf ra h1
      have := vf rb h2
      subst x y
      exact .inl ⟨hs, Option.some.inj h⟩
    · exact .inr (deep h)
  · exact .inr (deep h)
theorem o_eq (hu : X.A.units + 64 < cLine) : O2 X (compareOp .Eq) gEq := o_mk (op_eq.or (op_eqD hu)) fun cA B ι S H x y a b d Q rs ra rb hg q => by
  unfold gEq at hg
  cases h : deq (view S a) (view S b) with
  | none => rw [h] at hg; cases hg
  | some k =>
    rw [h] at hg; cases hg
    rcases deq_dp rs ra rb h with ⟨h1, rfl⟩ | ⟨p, e, h1, h2, h3, h4, rfl⟩
    · exact .inl ⟨h1, q _ H same_refl RD.mk_bl⟩
    · exact .inr ⟨p, e, h1, h2, h3, h4, q _ H same_refl RD.mk_bl⟩
theorem o_ne (hu : X.A.units + 64 < cLine) : O2 X (compareOp .NotEq) gNe := o_mk (op_ne.or (op_neD hu)) fun cA B ι S H x y a b d Q rs ra rb hg q => by
  unfold gNe at hg
  cases h : deq (view S a) (view S b) with
  | none => rw [h] at hg; cases hg
  | some k =>
    rw [h] at hg; cases hg
    rcases deq_dp rs ra rb h with ⟨h1, rfl⟩ | ⟨p, e, h1, h2, h3, h4, rfl⟩
    · exact .inl ⟨h1, q _ H same_refl RD.mk_bl⟩
    · exact .inr ⟨p, e, h1, h2, h3, h4, q _ H same_refl RD.mk_bl⟩

/-! ### is -/
/-- the same None, True, False? -/
def dis (a : D) : D → Option Bool
  | .non => some (match a with | .non => true | _ => false)
  | .bl k => some (match a with | .bl j => j == k | _ => false)
  | _ => none
def rIs (neg : Bool) : R2 := fun x y H Q => (y = .non ∨ ∃ k, y = .bl k) ∧ Q (.bl (if neg then !decide (x = y) else decide (x = y))) H
theorem is_dec {x y : V} {v u : Value} (rx : RelV x v) (ry : RelV y u) (hy : y = .non ∨ ∃ k, y = .bl k) : plainIs v u = true ∧ (v == u) = decide (x = y) := by
  rcases hy with rfl | ⟨k, rfl⟩ <;> cases ry <;> (cases x <;> first
    | (cases rx; exact ⟨rfl, rfl⟩)
    | (rename_i b; cases rx; cases b <;> cases k <;> exact ⟨rfl, by first | rfl | decide⟩)
    | (obtain ⟨t, rfl⟩ := rx; exact ⟨rfl, rfl⟩))
theorem op_isV : OpR X (compareOp .Is) (rIs false) := by
  intro pins s σ H x y v u Q I rx ry h
  obtain ⟨hy, q⟩ := h
  obtain ⟨h1, h2⟩ := is_dec rx ry hy
  exact wpAny_is_plain h1 (by rw [h2]; exact ⟨.bl _, H, I, rfl, q⟩)
theorem op_isNotV : OpR X (compareOp .IsNot) (rIs true) := by
  intro pins s σ H x y v u Q I rx ry h
  obtain ⟨hy, q⟩ := h
  obtain ⟨h1, h2⟩ := is_dec rx ry hy
  exact wpAny_isNot_plain h1 (by rw [h2]; exact ⟨.bl _, H, I, rfl, q⟩)
theorem dis_V {a b : D} {x y : V} {k : Bool} (ra : RD K B ι H a x) (rb : RD K B ι H b y) (h : dis a b = some k) : (y = .non ∨ ∃ k, y = .bl k) ∧ decide (x = y) = k := by
  cases b with
  | non =>
    have := rb.non
    subst this
    refine ⟨.inl rfl, ?_⟩
    have h := Option.some.inj h
    subst h
    cases a with
    | non => rw [ra.non]; rfl
    | bl j => rw [ra.bl]; rfl
    | int j => rw [ra.int]; rfl
    | str j => rw [ra.str]; rfl
    | tup j => obtain ⟨_, _, rfl, _⟩ := ra.tup; rfl
    | lst j => obtain ⟨_, _, rfl, _⟩ := ra.lst; rfl
    | dct j _ => obtain ⟨_, _, rfl, _⟩ := ra.dct; rfl
    | obj j => obtain ⟨_, rfl, _⟩ := ra.obj; rfl
    | scr j => obtain ⟨_, _, rfl, _⟩ := ra.scr; rfl
  | bl z =>
    have := rb.bl
    subst this
    refine ⟨.inr ⟨_, rfl⟩, ?_⟩
    have h := Option.some.inj h
    subst h
    cases a with
    | non => rw [ra.non]; rfl
    | bl j => rw [ra.bl]; cases j <;> cases z <;> rfl
    | int j => rw [ra.int]; rfl
    | str j => rw [ra.str]; rfl
    | tup j => obtain ⟨_, _, rfl, _⟩ := ra.tup; rfl
    | lst j => obtain ⟨_, _, rfl, _⟩ := ra.lst; rfl
    | dct j _ => obtain ⟨_, _, rfl, _⟩ := ra.dct; rfl
    | obj j => obtain ⟨_, rfl, _⟩ := ra.obj; rfl
    | scr j => obtain ⟨_, _, rfl, _⟩ := ra.scr; rfl
  | _ => cases h
def gIs (S : Sto) (a b : D) : Option D := (dis a b).map .bl
def gIsn (S : Sto) (a b : D) : Option D := (dis a b).map fun k => .bl (!k)
theorem o_is : O2 X (compareOp .Is) gIs := o_mk op_isV fun cA B ι S H x y a b d Q rs ra rb hg q => by
  unfold gIs at hg
  cases h : dis a b with
  | none => rw [h] at hg; cases hg
  | some k =>
    rw [h] at hg; cases hg
    obtain ⟨h1, h2⟩ := dis_V ra rb h
    exact ⟨h1, by rw [h2]; exact q _ H same_refl RD.mk_bl⟩
theorem o_isn : O2 X (compareOp .IsNot) gIsn := o_mk op_isNotV fun cA B ι S H x y a b d Q rs ra rb hg q => by
  unfold gIsn at hg
  cases h : dis a b with
  | none => rw [h] at hg; cases hg
  | some k =>
    rw [h] at hg; cases hg
    obtain ⟨h1, h2⟩ := dis_V ra rb h
    exact ⟨h1, by rw [h2]; exact q _ H same_refl RD.mk_bl⟩

/-! ### in -/
def flas : List D → Option (List V)
  | [] => some []
  | d :: ds => match fla d, flas ds with | some x, some xs => some (x :: xs) | _, _ => none
theorem flas_V : ∀ {ds : List D} {xs vs : List V}, RDs K B ι H ds xs → flas ds = some vs → xs = vs ∧ xs.all flatV = true
  | [], xs, vs, r, h => by cases h; rw [r.nil_inv]; exact ⟨rfl, rfl⟩
  | d :: ds, xs, vs, r, h => by
    obtain ⟨v, t, rfl, h1, h2⟩ := r.cons_inv
    unfold flas at h
    split at h
    · rename_i y ys e1 e2
      cases h
      obtain ⟨rfl, f1⟩ := fla_V h1 e1
      obtain ⟨rfl, f2⟩ := flas_V h2 e2
      exact ⟨rfl, by rw [List.all_cons, f1, f2]; rfl⟩
    · cases h
/-- text in text -/
def sin (x y : Str) : Bool := if x.length = 1 then decide (x.cps.getD 0 0 ∈ y.cps.toList) else !(Builtin.Str.occurrences y x 0 y.length 1).isEmpty
theorem one_sign {x : Str} (h : x.length = 1) : x = ⟨#[x.cps.getD 0 0]⟩ := by
  obtain ⟨⟨l⟩⟩ := x
  have h' : l.length = 1 := h
  match l, h' with
  | [c], _ => rfl
def gIn (S : Sto) (a b : D) : Option D := match a, view S b with
  | .str x, .str y => some (.bl (sin x y))
  | a, .tup ds => match fla a, flas ds with | some v, some vs => some (.bl (inV v vs)) | _, _ => none
  | a, .lst ds => match fla a, flas ds with | some v, some vs => some (.bl (inV v vs)) | _, _ => none
  | _, _ => none
theorem o_in : O2 X (compareOp .In) gIn := o_mk (op_in_sign.or (op_in_str.or op_in_seq)) fun cA B ι S H x y a b d Q rs ra rb hg q => by
  unfold gIn at hg
  split at hg
  · rename_i z w e2
    cases hg
    unfold sin at q
    by_cases h : z.length = 1
    · rw [if_pos h] at q
      exact .inl ⟨_, w, by rw [ra.str, ← one_sign h], v_str rb e2, q _ H same_refl RD.mk_bl⟩
    · rw [if_neg h] at q
      exact .inr (.inl ⟨z, w, ra.str, v_str rb e2, q _ H same_refl RD.mk_bl⟩)
  · rename_i ds _ e2
    split at hg
    · rename_i v vs h1 h2
      cases hg
      obtain ⟨p, us, rfl, h3, r⟩ := v_tup rb e2
      obtain ⟨rfl, f1⟩ := fla_V ra h1
      obtain ⟨rfl, f2⟩ := flas_V r h2
      exact .inr (.inr ⟨p, us, rfl, .inr h3.sq, f1, f2, q _ H same_refl RD.mk_bl⟩)
    · cases hg
  · rename_i ds _ e2
    split at hg
    · rename_i v vs h1 h2
      cases hg
      obtain ⟨p, us, rfl, h3, r⟩ := v_lst rs rb e2
      obtain ⟨rfl, f1⟩ := fla_V ra h1
      obtain ⟨rfl, f2⟩ := flas_V r h2
      exact .inr (.inr ⟨p, us, rfl, .inl h3, f1, f2, q _ H same_refl RD.mk_bl⟩)
    · cases hg
  · cases hg
def gNin (S : Sto) (a b : D) : Option D := match a, view S b with
  | .str x, .str y => some (.bl (!sin x y))
  | a, .tup ds => match fla a, flas ds with | some v, some vs => some (.bl (!inV v vs)) | _, _ => none
  | a, .lst ds => match fla a, flas ds with | some v, some vs => some (.bl (!inV v vs)) | _, _ => none
  | _, _ => none
theorem o_nin : O2 X (compareOp .NotIn) gNin := o_mk (op_notIn_sign.or (op_notin_str.or op_notIn_seq)) fun cA B ι S H x y a b d Q rs ra rb hg q => by
  unfold gNin at hg
  split at hg
  · rename_i z w e2
    cases hg
    unfold sin at q
    by_cases h : z.length = 1
    · rw [if_pos h] at q
      exact .inl ⟨_, w, by rw [ra.str, ← one_sign h], v_str rb e2, q _ H same_refl RD.mk_bl⟩
    · rw [if_neg h] at q
      exact .inr (.inl ⟨z, w, ra.str, v_str rb e2, q _ H same_refl RD.mk_bl⟩)
  · rename_i ds _ e2
    split at hg
    · rename_i v vs h1 h2
      cases hg
      obtain ⟨p, us, rfl, h3, r⟩ := v_tup rb e2
      obtain ⟨rfl, f1⟩ := fla_V ra h1
      obtain ⟨rfl, f2⟩ := flas_V r h2
      exact .inr (.inr ⟨p, us, rfl, .inr h3.sq, f1, f2, q _ H same_refl RD.mk_bl⟩)
    · cases hg
  · rename_i ds _ e2
    split at hg
    · rename_i v vs h1 h2
      cases hg
      obtain ⟨p, us, rfl, h3, r⟩ := v_lst rs rb e2
      obtain ⟨rfl, f1⟩ := fla_V ra h1
      obtain ⟨rfl, f2⟩ := flas_V r h2
      exact .inr (.inr ⟨p, us, rfl, .inl h3, f1, f2, q _ H same_refl RD.mk_bl⟩)
    · cases hg
  · cases hg

/-! ### places -/
theorem atI_RD {ds : List D} {xs : List V} {i : Int} {d : D} (r : RDs K B ι H ds xs) (h : atI ds i = some d) : ∃ v, atI xs i = some v ∧ RD K B ι H d v := by
  unfold atI at h ⊢
  rw [← r.len]
  cases e : ixN ds.length i with
  | none => rw [e] at h; cases h
  | some j =>
    rw [e] at h
    exact r.get h
def gIx (S : Sto) (a b : D) : Option D := match view S a, b with
  | .str z, .int i => if z.length ≤ 16777216 then (atI z.cps.toList i).map fun c => .str ⟨#[c]⟩ else none
  | .tup ds, .int i => atI ds i
  | .lst ds, .int i => atI ds i
  | _, _ => none
theorem q_ix {a b : Expr} {ma mb : ME} {pos : Pos} (ha : PE X a (tE X.K cA W ma)) (hb : PE X b (tE X.K cA W mb)) (hs : PlainIx b := by exact fun _ _ => rfl) : PE X (.Subscript a b pos) (tE X.K cA W (e2 gIx ma mb)) :=
  PEi (pe_ix ix_seq ha hb hs) (use2 (f := fun _ _ => pure Value.none) fun cA B ι S H x y a b d Q rs ra rb hg q => by
    unfold gIx at hg
    split at hg
    · rename_i z i e1
      split at hg
      · rename_i hz
        cases e : atI z.cps.toList i with
        | none => rw [e] at hg; cases hg
        | some c =>
          rw [e] at hg; cases hg
          exact .inr (.inr ⟨z, i, c, v_str ra e1, rb.int, by rw [sizeL]; exact hz, e, q _ H same_refl RD.mk_str⟩)
      · cases hg
    · rename_i ds i e1
      obtain ⟨p, us, rfl, h3, r⟩ := v_tup ra e1
      obtain ⟨v, h1, h2⟩ := atI_RD r hg
      exact .inr (.inl ⟨p, us, i, v, rfl, rb.int, h3.sq, h1, q _ H same_refl h2⟩)
    · rename_i ds i e1
      obtain ⟨p, us, rfl, h3, r⟩ := v_lst rs ra e1
      obtain ⟨v, h1, h2⟩ := atI_RD r hg
      exact .inl ⟨p, us, i, v, rfl, rb.int, h3, h1, q _ H same_refl h2⟩
    · cases hg)
end
end DL

/-! The data layer: displays, builtins, slices, statements. -/
namespace DL
open PySem PySem.Spec PyProof.Rows L2
section
variable {X : Cx} {K : PySem.W.Frag} {cA : Str → Addr} {W : WX} {B : Addr → Prop} {ι : List Addr} {S : Sto} {H : Hp}
variable {a b c : Expr} {es : List Expr} {ma mb mc : ME} {xs : MA} {pos : Pos}

/-! ### displays -/
theorem q_tup {x1} (h : PA X es (tA X.K cA W xs)) : PE X (.Tuple es x1 pos) (tE X.K cA W (eTup xs)) := PEi (pe_tup h) fun σ H Q ⟨B, ι, e, S, re, p⟩ =>
  .of re (poA_bind re p fun ι1 vs H1 ds S1 f1 r1 rd1 p1 => by
    split at p1
    · rename_i hz
      exact ⟨by rw [sizeL, ← rd1.len]; exact hz, fun n np => p1 ι1 _ _ (Fr.same (same_new np)) (r1.rs.same (same_new np)) (new_tup r1.rs np rd1)⟩
    · exact p1.elim)
theorem q_lst (h : PA X es (tA X.K cA W xs)) : PE X (.List es pos) (tE X.K cA W (eLst xs)) := PEi (pe_lst h) fun σ H Q ⟨B, ι, e, S, re, p⟩ =>
  .of re (poA_bind re p fun ι1 vs H1 ds S1 f1 r1 rd1 p1 => by
    split at p1
    · rename_i hz
      exact ⟨by rw [sizeL, ← rd1.len]; exact hz, fun n np => p1 ι1 _ _ (Fr.same (same_new np)) (r1.rs.same (same_new np)) (new_lst r1.rs np rd1)⟩
    · exact p1.elim)
/-- a new cell -/
theorem Fr.push {p : Addr} {o : HO} (h : p ∉ ι) (np : H p = none) : Fr ι (ι ++ [p]) H (upd H p o) := ⟨⟨[p], rfl, fun a m => by rw [List.mem_singleton.mp m]; exact ⟨h, np⟩⟩, fun a o' e _ => by rw [upd_ne (ne_of_none e np)]; exact e⟩
theorem RS.push (rs : RS K cA B ι S H) {p : Addr} (np : H p = none) {o : HO} {c : Cell} (h : RO K cA B (ι ++ [p]) (upd H p o) p c) : RS K cA B (ι ++ [p]) (S ++ [c]) (upd H p o) := by
  have hp := not_in rs np
  refine ⟨by simp [rs.len], ?_, fun a hb => ?_, fun i c' e => ?_⟩
  · rw [List.nodup_append]
    exact ⟨rs.nd, by simp, fun x hx y hy => by rw [List.mem_singleton.mp hy]; exact fun z => hp (z ▸ hx)⟩
  · obtain ⟨h1, o', h2⟩ := rs.nB a hb
    refine ⟨fun m => ?_, o', by rw [upd_ne (ne_of_none h2 np)]; exact h2⟩
    rcases List.mem_append.mp m with m | m
    · exact h1 m
    · rw [List.mem_singleton.mp m, np] at h2; cases h2
  · by_cases hi : i < S.length
    · rw [List.getElem?_append_left hi] at e
      obtain ⟨a, h1, h2⟩ := rs.at_ i c' e
      obtain ⟨o', ho⟩ := h2.has
      exact ⟨a, by rw [List.getElem?_append_left (by rw [rs.len]; exact hi)]; exact h1, h2.fr (Fr.push hp np) (by rw [upd_ne (ne_of_none ho np)])⟩
    · rw [List.getElem?_append_right (by omega)] at e
      have : i - S.length = 0 := by
        by_cases z : i - S.length = 0
        · exact z
        · rw [List.getElem?_eq_none (by simp; omega)] at e; cases e
      rw [this] at e
      cases e
      refine ⟨p, ?_, h⟩
      rw [List.getElem?_append_right (by rw [rs.len]; omega), rs.len, this]; rfl
theorem q_new (h : PA X es (tA X.K cA W xs)) : PE X (.List es pos) (tE X.K cA W (eNew xs)) := PEi (pe_lst h) fun σ H Q ⟨B, ι, e, S, re, p⟩ =>
  .of re (poA_bind re p fun ι1 vs H1 ds S1 f1 r1 rd1 p1 => by
    split at p1
    · rename_i hz
      refine ⟨by rw [sizeL, ← rd1.len]; exact hz, fun n np => ?_⟩
      have fr : Fr ι1 (ι1 ++ [n]) H1 (upd H1 n (.lst vs)) := Fr.push (not_in r1.rs np) np
      refine p1 _ _ _ fr (r1.rs.push np ⟨vs, upd_same, RDs.fr fr _ _ rd1⟩) (.mk_obj ?_)
      rw [← r1.rs.len, List.getElem?_append_right (Nat.le_refl _)]
      simp
    · exact p1.elim)

/-! ### builtins -/
structure CB (X : Cx) (f : Value) (g : Sto → List D → Option D) : Prop where
  ex : ∃ r : List V → Hp → VK → Prop, CallR X f r ∧ ∀ (cA : Str → Addr) (B : Addr → Prop) (ι : List Addr) (S : Sto) (H : Hp) (xs : List V) (ds : List D) (d : D) (Q : VK), RS X.K cA B ι S H → RDs X.K B ι H ds xs → g S ds = some d →
    (∀ v H', Same H H' → RD X.K B ι H' d v → Q v H') → r xs H Q
variable {g : Sto → List D → Option D} {x : Str} {p : Pos} {id T : String}
theorem useB {r : List V → Hp → VK → Prop} (hr : ∀ (cA : Str → Addr) (B : Addr → Prop) (ι : List Addr) (S : Sto) (H : Hp) (xs : List V) (ds : List D) (d : D) (Q : VK), RS X.K cA B ι S H → RDs X.K B ι H ds xs → g S ds = some d →
    (∀ v H', Same H H' → RD X.K B ι H' d v → Q v H') → r xs H Q) : ∀ σ H Q, tE X.K cA W (eB g xs) σ H Q → tCB r (tA X.K cA W xs) σ H Q := fun σ H Q ⟨B, ι, e, S, re, p⟩ =>
  .of re (poA_bind re p fun ι1 vs H1 ds S1 f1 r1 rd1 p1 => by
    obtain ⟨d, hd, q⟩ := po_opt p1 r1.rs
    exact hr cA B ι1 S1 H1 vs ds d Q r1.rs rd1 hd q)
theorem q_callB (hc : CB X (.builtin id) g) (hg : Gl X x) (hm : X.mg x = none) (hv : bootBuiltins x = some (.builtin id)) (ha : PA X (a :: es) (tA X.K cA W xs)) (hn : x ≠ "__name__" := by decide) (hdb : (x == ("__debug__" : Str)) = false := by decide)
    (he : starEach (a :: es) X.env = (false, eval a X.env) :: starEach es X.env := by rfl) (hpl : (backTo pos (starEach es X.env)).any (·.1) = false := by rfl) : PE X (.Call (.Name x p) (a :: es) [] pos) (tE X.K cA W (eB g xs)) :=
  let ⟨_, h1, h2⟩ := hc.ex; PEi (pe_callB h1 hg hm hv ha hn hdb he hpl) (useB h2)
theorem q_callT (hc : CB X (.type T) g) (hg : Gl X x) (hm : X.mg x = none) (hv : bootBuiltins x = some (.type T)) (ha : PA X (a :: es) (tA X.K cA W xs)) (hn : x ≠ "__name__" := by decide) (hdb : (x == ("__debug__" : Str)) = false := by decide)
    (he : starEach (a :: es) X.env = (false, eval a X.env) :: starEach es X.env := by rfl) (hpl : (backTo pos (starEach es X.env)).any (·.1) = false := by rfl) : PE X (.Call (.Name x p) (a :: es) [] pos) (tE X.K cA W (eB g xs)) :=
  let ⟨_, h1, h2⟩ := hc.ex; PEi (pe_callTy h1 hg hm hv ha hn hdb he hpl) (useB h2)
theorem CB.mk' {f : Value} {r : List V → Hp → VK → Prop} (h : CallR X f r) (k : ∀ (cA : Str → Addr) (B : Addr → Prop) (ι : List Addr) (S : Sto) (H : Hp) (xs : List V) (ds : List D) (d : D) (Q : VK), RS X.K cA B ι S H → RDs X.K B ι H ds xs → g S ds = some d →
    (∀ v H', Same H H' → RD X.K B ι H' d v → Q v H') → r xs H Q) : CB X f g := ⟨r, h, k⟩
theorem CallR.or {f : Value} {r r' : List V → Hp → VK → Prop} (h : CallR X f r) (h' : CallR X f r') : CallR X f (fun xs H Q => r xs H Q ∨ r' xs H Q) := by
  intro pins s σ H xs us Q I rx q
  rcases q with q | q
  · exact h pins s σ H xs us Q I rx q
  · exact h' pins s σ H xs us Q I rx q
theorem RDs.one {d : D} {xs : List V} (r : RDs K B ι H [d] xs) : ∃ v, xs = [v] ∧ RD K B ι H d v := by
  obtain ⟨v, t, rfl, h1, h2⟩ := r.cons_inv
  rw [h2.nil_inv]; exact ⟨v, rfl, h1⟩
theorem RDs.two {d d' : D} {xs : List V} (r : RDs K B ι H [d, d'] xs) : ∃ v v', xs = [v, v'] ∧ RD K B ι H d v ∧ RD K B ι H d' v' := by
  obtain ⟨v, t, rfl, h1, h2⟩ := r.cons_inv
  obtain ⟨v', rfl, h3⟩ := h2.one
  exact ⟨v, v', rfl, h1, h3⟩
def gLen (S : Sto) : List D → Option D
  | [d] => match view S d with
    | .str z => if z.length ≤ 16777216 then some (.int z.length) else none
    | .tup ds => some (.int ds.length)
    | .lst ds => some (.int ds.length)
    | .dct ks _ => some (.int ks.length)
    | _ => none
  | _ => none
theorem c_len : CB X (.builtin "len") gLen := .mk' (CallR.or call_len_str (CallR.or call_len_seq call_lenD)) fun cA B ι S H xs ds d Q rs rd hg q => by
  unfold gLen at hg
  split at hg
  · obtain ⟨v, rfl, rd1⟩ := rd.one
    split at hg
    · rename_i z e
      split at hg
      · rename_i hz
        cases hg
        exact .inl ⟨z, by rw [v_str rd1 e], by rw [sizeL]; exact hz, q _ H same_refl RD.mk_int⟩
      · cases hg
    · rename_i z e
      cases hg
      obtain ⟨p, us, rfl, h3, r⟩ := v_tup rd1 e
      exact .inr (.inl ⟨p, us, rfl, .inr h3.sq, by rw [← r.len]; exact q _ H same_refl RD.mk_int⟩)
    · rename_i z e
      cases hg
      obtain ⟨p, us, rfl, h3, r⟩ := v_lst rs rd1 e
      exact .inr (.inl ⟨p, us, rfl, .inl h3, by rw [← r.len]; exact q _ H same_refl RD.mk_int⟩)
    · rename_i ks z e
      cases hg
      obtain ⟨p, us, rfl, h3, h4, r⟩ := v_dct rs rd1 e
      refine .inr (.inr ⟨p, _, rfl, h3, ?_⟩)
      rw [List.length_zip, ← h4, Nat.min_self]
      exact q _ H same_refl RD.mk_int
    · cases hg
  · cases hg
def gAbs (S : Sto) : List D → Option D
  | [.int i] => some (.int (if i < 0 then -i else i))
  | _ => none
theorem c_abs : CB X (.builtin "abs") gAbs := .mk' call_abs fun cA B ι S H xs ds d Q rs rd hg q => by
  unfold gAbs at hg
  split at hg
  · cases hg
    obtain ⟨v, rfl, rd1⟩ := rd.one
    exact ⟨_, by rw [rd1.int], q _ H same_refl RD.mk_int⟩
  · cases hg
def gList (S : Sto) : List D → Option D
  | [d] => match view S d with
    | .tup ds => some (.lst ds)
    | .lst ds => some (.lst ds)
    | _ => none
  | _ => none
theorem c_list : CB X (.type "list") gList := .mk' call_list_of fun cA B ι S H xs ds d Q rs rd hg q => by
  unfold gList at hg
  split at hg
  · obtain ⟨v, rfl, rd1⟩ := rd.one
    split at hg
    · rename_i z e
      cases hg
      obtain ⟨p, us, rfl, h3, r⟩ := v_tup rd1 e
      exact ⟨p, us, rfl, .inr h3.sq, fun n np => q _ _ (same_new np) (new_lst rs np r)⟩
    · rename_i z e
      cases hg
      obtain ⟨p, us, rfl, h3, r⟩ := v_lst rs rd1 e
      exact ⟨p, us, rfl, .inl h3, fun n np => q _ _ (same_new np) (new_lst rs np r)⟩
    · cases hg
  · cases hg
def gTuple (S : Sto) : List D → Option D
  | [d] => match view S d with
    | .tup ds => some (.tup ds)
    | .lst ds => some (.tup ds)
    | _ => none
  | _ => none
theorem c_tuple : CB X (.type "tuple") gTuple := .mk' call_tuple_of fun cA B ι S H xs ds d Q rs rd hg q => by
  unfold gTuple at hg
  split at hg
  · obtain ⟨v, rfl, rd1⟩ := rd.one
    split at hg
    · rename_i z e
      cases hg
      obtain ⟨p, us, rfl, h3, r⟩ := v_tup rd1 e
      exact ⟨p, us, rfl, .inr ⟨h3.sq, q _ _ same_refl (.mk_tup h3 r)⟩⟩
    · rename_i z e
      cases hg
      obtain ⟨p, us, rfl, h3, r⟩ := v_lst rs rd1 e
      exact ⟨p, us, rfl, .inl ⟨h3, fun n np => q _ _ (same_new np) (new_tup rs np r)⟩⟩
    · cases hg
  · cases hg
/-- the truths, the numbers in a list -/
def bls : List D → Option (List Bool)
  | [] => some []
  | .bl b :: ds => (bls ds).map (b :: ·)
  | _ => none
def intL : List D → Option (List Int)
  | [] => some []
  | .int b :: ds => (intL ds).map (b :: ·)
  | _ => none
theorem bls_V : ∀ {ds : List D} {xs : List V} {bs : List Bool}, RDs K B ι H ds xs → bls ds = some bs → xs = bs.map V.bl
  | [], xs, bs, r, h => by cases h; rw [r.nil_inv]; rfl
  | .bl k :: ds, xs, bs, r, h => by
    obtain ⟨v, t, rfl, h1, h2⟩ := r.cons_inv
    rw [bls] at h
    cases q : bls ds with
    | none => rw [q] at h; cases h
    | some l =>
      rw [q] at h; cases h
      rw [bls_V h2 q, h1.bl]; rfl
  | .non :: ds, xs, bs, r, h => by cases h
  | .int _ :: ds, xs, bs, r, h => by cases h
  | .str _ :: ds, xs, bs, r, h => by cases h
  | .tup _ :: ds, xs, bs, r, h => by cases h
  | .lst _ :: ds, xs, bs, r, h => by cases h
  | .dct _ _ :: ds, xs, bs, r, h => by cases h
  | .obj _ :: ds, xs, bs, r, h => by cases h
  | .scr _ :: ds, xs, bs, r, h => by cases h
theorem ints_V : ∀ {ds : List D} {xs : List V} {bs : List Int}, RDs K B ι H ds xs → intL ds = some bs → xs = bs.map V.int
  | [], xs, bs, r, h => by cases h; rw [r.nil_inv]; rfl
  | .int k :: ds, xs, bs, r, h => by
    obtain ⟨v, t, rfl, h1, h2⟩ := r.cons_inv
    rw [intL] at h
    cases q : intL ds with
    | none => rw [q] at h; cases h
    | some l =>
      rw [q] at h; cases h
      rw [ints_V h2 q, h1.int]; rfl
  | .non :: ds, xs, bs, r, h => by cases h
  | .bl _ :: ds, xs, bs, r, h => by cases h
  | .str _ :: ds, xs, bs, r, h => by cases h
  | .tup _ :: ds, xs, bs, r, h => by cases h
  | .lst _ :: ds, xs, bs, r, h => by cases h
  | .dct _ _ :: ds, xs, bs, r, h => by cases h
  | .obj _ :: ds, xs, bs, r, h => by cases h
  | .scr _ :: ds, xs, bs, r, h => by cases h
def gLb (f : List Bool → Bool) (S : Sto) : List D → Option D
  | [d] => match view S d with
    | .lst ds => (bls ds).map fun bs => .bl (f bs)
    | _ => none
  | _ => none
theorem c_lb {id : String} {f : List Bool → Bool} (h : CallR X (.builtin id) (fun vs H Q => ∃ (a : Addr) (bs : List Bool), vs = [V.ref a] ∧ SqL X.K H a (bs.map V.bl) ∧ Q (.bl (f bs)) H)) : CB X (.builtin id) (gLb f) := .mk' h fun cA B ι S H xs ds d Q rs rd hg q => by
  unfold gLb at hg
  split at hg
  · obtain ⟨v, rfl, rd1⟩ := rd.one
    split at hg
    · rename_i z e
      cases q2 : bls z with
      | none => rw [q2] at hg; cases hg
      | some bs =>
        rw [q2] at hg; cases hg
        obtain ⟨p, us, rfl, h3, r⟩ := v_lst rs rd1 e
        have := bls_V r q2
        subst this
        exact ⟨p, bs, rfl, h3, q _ H same_refl RD.mk_bl⟩
    · cases hg
  · cases hg
def allB (bs : List Bool) : Bool := bs.all _root_.id
def anyB (bs : List Bool) : Bool := bs.any _root_.id
theorem c_all (hc : X.calm = true) : CB X (.builtin "all") (gLb allB) := c_lb (cr_all hc)
theorem c_any (hc : X.calm = true) : CB X (.builtin "any") (gLb anyB) := c_lb (cr_any hc)
def gSum (S : Sto) : List D → Option D
  | [d] => match view S d with
    | .lst ds => (intL ds).map fun ns => .int ns.sum
    | _ => none
  | _ => none
theorem c_sum (hc : X.calm = true) : CB X (.builtin "sum") gSum := .mk' (cr_sum hc) fun cA B ι S H xs ds d Q rs rd hg q => by
  unfold gSum at hg
  split at hg
  · obtain ⟨v, rfl, rd1⟩ := rd.one
    split at hg
    · rename_i z e
      cases q2 : intL z with
      | none => rw [q2] at hg; cases hg
      | some bs =>
        rw [q2] at hg; cases hg
        obtain ⟨p, us, rfl, h3, r⟩ := v_lst rs rd1 e
        have := ints_V r q2
        subst this
        exact ⟨p, bs, rfl, h3, q _ H same_refl RD.mk_int⟩
    · cases hg
  · cases hg
/-- isinstance of a built-in class -/
def tyN (S : Sto) (d : D) : Option String := match view S d with
  | .non => some "NoneType" | .bl _ => some "bool" | .int _ => some "int" | .str _ => some "str" | .tup _ => some "tuple" | .lst _ => some "list" | .dct _ _ => some "dict" | _ => none
def isi (n t : String) : Bool := t == n || (t == "bool" && n == "int")
def gIsi (n : String) (S : Sto) (d : D) : Option D := (tyN S d).map fun t => .bl (isi n t)
theorem kit_isi {n t : String} (hn : n ∈ ["str", "tuple", "list", "dict", "int", "bool"]) (ht : t ∈ ["NoneType", "bool", "int", "str", "tuple", "list", "dict"]) : PySem.W.kitOne K (.type t) (.type n) = some (isi n t) := by
  apply kit_ty
  simp only [List.mem_cons, List.not_mem_nil, or_false] at hn ht
  rcases hn with rfl | rfl | rfl | rfl | rfl | rfl <;> rcases ht with rfl | rfl | rfl | rfl | rfl | rfl | rfl <;> decide +kernel
theorem tyN_ok (rs : RS K cA B ι S H) {d : D} {v : V} {t : String} (rd : RD K B ι H d v) (h : tyN S d = some t) : TyX K H v (.type t) ∧ t ∈ ["NoneType", "bool", "int", "str", "tuple", "list", "dict"] := by
  unfold tyN at h
  split at h
  · rename_i e; cases h; rw [v_non rd e]; exact ⟨.base .non, by simp⟩
  · rename_i e; cases h; rw [v_bl rd e]; exact ⟨.base (.bl _), by simp⟩
  · rename_i e; cases h; rw [v_int rd e]; exact ⟨.base (.int _), by simp⟩
  · rename_i e; cases h; rw [v_str rd e]; exact ⟨.base (.str _), by simp⟩
  · rename_i e; cases h
    obtain ⟨p, us, rfl, h3, r⟩ := v_tup rd e
    refine ⟨?_, by simp⟩
    rcases h3 with ⟨_, _, h | ⟨o, h⟩⟩ | ⟨o, its, n, h, hc, _⟩
    · exact .base (.tup h)
    · exact .fTuple h
    · exact .kTuple h hc
  · rename_i e; cases h
    obtain ⟨p, us, rfl, h3, r⟩ := v_lst rs rd e
    refine ⟨?_, by simp⟩
    rcases h3 with (h | ⟨o, h⟩) | ⟨o, its, n, h, hc, _⟩
    · exact .base (.lst h)
    · exact .base (.frz h)
    · exact .kList h hc
  · rename_i e; cases h
    obtain ⟨p, us, rfl, h3, r⟩ := v_dct rs rd e
    exact ⟨.base (.dK h3), by simp⟩
  · cases h
theorem q_isi {n : String} (hg : Gl X "isinstance") (hm : X.mg "isinstance" = none) (ha : PE X a (tE X.K cA W ma)) (ht : PE X b (tC (.ty n))) (hn : n ∈ ["str", "tuple", "list", "dict", "int", "bool"] := by simp)
    (hs : starEach [a, b] X.env = [(false, eval a X.env), (false, eval b X.env)] := by rfl) (hs2 : starEach [b] X.env = [(false, eval b X.env)] := by rfl) (hpl : (backTo pos (starEach [b] X.env)).any (·.1) = false := by rfl) :
    PE X (.Call (.Name "isinstance" p) [a, b] [] pos) (tE X.K cA W (e1 (gIsi n) ma)) :=
  PEi (pe_callB call_isi hg hm (by decide +kernel) (pa_cons ha (pa_cons ht pa_nil hs2) (by rw [hs, hs2])) (by decide) (by decide) (by rw [hs, hs2]) hpl) fun σ H Q ⟨B, ι, e, S, re, p⟩ =>
    .of re (po_bind re p fun ι1 v1 H1 d1 S1 f1 r1 rd1 p1 => by
      obtain ⟨d, hd, q⟩ := po_opt p1 r1.rs
      unfold gIsi at hd
      cases e : tyN S1 d1 with
      | none => rw [e] at hd; cases hd
      | some t =>
        rw [e] at hd; cases hd
        obtain ⟨h1, h2⟩ := tyN_ok r1.rs rd1 e
        exact ⟨v1, .ty n, .type t, .type n, _, rfl, .ty n, h1, kit_isi hn h2, q _ H1 same_refl RD.mk_bl⟩)
theorem q_ty {x : Str} {n : String} {pos : Pos} (hg : Gl X x) (hm : X.mg x = none) (hv : bootBuiltins x = some (.type n)) (hn : x ≠ "__name__" := by decide) (hd : (x == ("__debug__" : Str)) = false := by decide) : PE X (.Name x pos) (tC (.ty n)) := pe_bltn (v := .ty n) hg hm hv rfl hn hd

/-! ### slices -/
def oNo : En → Sto → Option (Option Int × Sto) := fun _ S => some (none, S)
/-- the part of a slice: no store is changed by it -/
def gSl (lo hi : Option Int) (S : Sto) (d : D) : Option D := match view S d with
  | .str z => if z.length ≤ 16777216 then some (.str (cutS z lo hi)) else none
  | .tup ds => some (.tup ((ds.drop (HT.sIx ds.length 0 lo)).take (HT.sIx ds.length ds.length hi - HT.sIx ds.length 0 lo)))
  | .lst ds => some (.lst ((ds.drop (HT.sIx ds.length 0 lo)).take (HT.sIx ds.length ds.length hi - HT.sIx ds.length 0 lo)))
  | _ => none
def part : D → Option Int
  | .int i => some i
  | _ => none
def isPart : D → Bool
  | .int _ => true
  | _ => false
def eSl2 (m l h : ME) : ME := fun e S => (m e S).bind fun x S1 => (l e S1).bind fun i S2 => if isPart i = true then (h e S2).bind fun j S3 => if isPart j = true then opt (gSl (part i) (part j) S3 x) S3 else .bad else .bad
def eSlL (m l : ME) : ME := fun e S => (m e S).bind fun x S1 => (l e S1).bind fun i S2 => if isPart i = true then opt (gSl (part i) none S2 x) S2 else .bad
def eSlH (m h : ME) : ME := fun e S => (m e S).bind fun x S1 => (h e S1).bind fun j S2 => if isPart j = true then opt (gSl none (part j) S2 x) S2 else .bad
def rSl3 (K : PySem.W.Frag) : V → Option Int → Option Int → Hp → VK → Prop := fun x lo hi H Q => rSlS x lo hi H Q ∨ rSlA K x lo hi H Q ∨ rSlL K x lo hi H Q
theorem sl_3 : SlR X (rSl3 X.K) := SlR.or sl_str (SlR.or sl_tupA sl_list)
theorem gSl_ok (rs : RS K cA B ι S H) {d r : D} {v : V} {lo hi : Option Int} {Q : VK} (rd : RD K B ι H d v) (h : gSl lo hi S d = some r) (q : ∀ v H', Same H H' → RD K B ι H' r v → Q v H') : rSl3 K v lo hi H Q := by
  unfold gSl at h
  split at h
  · rename_i z e
    split at h
    · rename_i hz
      cases h
      exact .inl ⟨z, v_str rd e, by rw [sizeL]; exact hz, q _ H same_refl RD.mk_str⟩
    · cases h
  · rename_i z e
    cases h
    obtain ⟨p, us, rfl, h3, r⟩ := v_tup rd e
    have hl := r.len
    have hcut : ∀ H', Same H H' → RDs K B ι H' ((z.drop (HT.sIx z.length 0 lo)).take (HT.sIx z.length z.length hi - HT.sIx z.length 0 lo)) (cutV us lo hi) := fun H' sm => by
      unfold cutV
      rw [← hl]
      exact ((RDs.fr (Fr.same sm) _ _ r).drop _).take _
    refine .inr (.inl ⟨p, us, rfl, h3.sq, fun ⟨w1, w2⟩ => ?_, fun _ n np => ?_⟩)
    · have : cutV us lo hi = us := by unfold cutV; rw [w1, w2]; simp
      have hc := hcut H same_refl
      rw [this] at hc
      exact q _ H same_refl (.mk_tup h3 hc)
    · refine q _ _ (same_new np) (.mk_tup (.inl ⟨not_in rs np, not_B rs np, .inl upd_same⟩) (hcut _ (same_new np)))
  · rename_i z e
    cases h
    obtain ⟨p, us, rfl, h3, r⟩ := v_lst rs rd e
    have hl := r.len
    refine .inr (.inr ⟨p, us, rfl, h3, fun n np => q _ _ (same_new np) (.mk_lst ⟨not_in rs np, not_B rs np, .inl upd_same⟩ ?_)⟩)
    unfold cutV
    rw [← hl]
    exact ((RDs.fr (Fr.same (same_new np)) _ _ r).drop _).take _
  · cases h
theorem part_int {d : D} {v : V} (rd : RD K B ι H d v) (h : isPart d = true) : ∃ i, v = .int i ∧ part d = some i := by
  cases d with
  | int i => exact ⟨i, rd.int, rfl⟩
  | _ => cases h
variable {lo hi : Expr} {ml mh : ME} {p2 : Pos}
theorem q_sl2 (ha : PE X a (tE X.K cA W ma)) (hl : PE X lo (tE X.K cA W ml)) (hh : PE X hi (tE X.K cA W mh)) : PE X (.Subscript a (.Slice (some lo) (some hi) none p2) pos) (tE X.K cA W (eSl2 ma ml mh)) :=
  PEi (pe_slice sl_3 ha (po_some hl) (po_some hh)) fun σ H Q ⟨B, ι, e, S, re, p⟩ =>
    .of re (po_bind re p fun ι1 v1 H1 d1 S1 f1 r1 rd1 p1 => .of r1 (po_bind r1 p1 fun ι2 v2 H2 d2 S2 f2 r2 rd2 p2 => by
      split at p2
      · rename_i hi
        obtain ⟨i, rfl, e2⟩ := part_int rd2 hi
        refine ⟨i, rfl, .of r2 (po_bind r2 p2 fun ι3 v3 H3 d3 S3 f3 r3 rd3 p3 => ?_)⟩
        split at p3
        · rename_i hj
          obtain ⟨j, rfl, e3⟩ := part_int rd3 hj
          obtain ⟨d, hd, q⟩ := po_opt p3 r3.rs
          rw [e2, e3] at hd
          exact ⟨j, rfl, gSl_ok r3.rs (RD.fr f3 _ _ (RD.fr f2 _ _ rd1)) hd q⟩
        · exact p3.elim
      · exact p2.elim))
theorem q_slL (ha : PE X a (tE X.K cA W ma)) (hl : PE X lo (tE X.K cA W ml)) : PE X (.Subscript a (.Slice (some lo) none none p2) pos) (tE X.K cA W (eSlL ma ml)) :=
  PEi (pe_slice sl_3 ha (po_some hl) po_none) fun σ H Q ⟨B, ι, e, S, re, p⟩ =>
    .of re (po_bind re p fun ι1 v1 H1 d1 S1 f1 r1 rd1 p1 => .of r1 (po_bind r1 p1 fun ι2 v2 H2 d2 S2 f2 r2 rd2 p2 => by
      split at p2
      · rename_i hi
        obtain ⟨i, rfl, e2⟩ := part_int rd2 hi
        obtain ⟨d, hd, q⟩ := po_opt p2 r2.rs
        rw [e2] at hd
        exact ⟨i, rfl, gSl_ok r2.rs (RD.fr f2 _ _ rd1) hd q⟩
      · exact p2.elim))
theorem q_slH (ha : PE X a (tE X.K cA W ma)) (hl : PE X hi (tE X.K cA W mh)) : PE X (.Subscript a (.Slice none (some hi) none p2) pos) (tE X.K cA W (eSlH ma mh)) :=
  PEi (pe_slice sl_3 ha po_none (po_some hl)) fun σ H Q ⟨B, ι, e, S, re, p⟩ =>
    .of re (po_bind re p fun ι1 v1 H1 d1 S1 f1 r1 rd1 p1 => .of r1 (po_bind r1 p1 fun ι2 v2 H2 d2 S2 f2 r2 rd2 p2 => by
      split at p2
      · rename_i hi
        obtain ⟨i, rfl, e2⟩ := part_int rd2 hi
        obtain ⟨d, hd, q⟩ := po_opt p2 r2.rs
        rw [e2] at hd
        exact ⟨i, rfl, gSl_ok r2.rs (RD.fr f2 _ _ rd1) hd q⟩
      · exact p2.elim))
end
end DL

/-! The data layer: statements, loops. -/
namespace DL
open PySem PySem.Spec PyProof.Rows L2
section
variable {X : Cx} {K : PySem.W.Frag} {cA : Str → Addr} {W : WX} {B : Addr → Prop} {ι : List Addr} {S : Sto} {H : Hp} {σ : L2.St} {e : En}
variable {a b c : Expr} {es : List Expr} {ma mb mc : ME} {xs : MA} {pos : Pos} {st : Stmt} {sts : List Stmt} {sa sb : MS}

/-! ### small statements -/
theorem z_nil : PSs X [] (tS X.K cA W sPass) := PSsi pss_nil fun D' σ H ⟨B, ι, e, S, re, p⟩ => p ι σ H Fr.refl re
theorem z_cons (h1 : PS X st (tS X.K cA W sa)) (h2 : PSs X sts (tS X.K cA W sb)) : PSs X (st :: sts) (tS X.K cA W (sSeq sa sb)) := PSsi (pss_cons h1 h2) fun D' σ H ⟨B, ι, e, S, re, p⟩ => by
  refine .of re ?_
  unfold sSeq RS'.bind at p
  cases q : sa e S with
  | nx e1 S1 => rw [q] at p; exact fun ι1 σ1 H1 f1 r1 => .of r1 (PoS.on f1 p)
  | bad => rw [q] at p; exact p
  | brk e1 S1 => rw [q] at p; exact p
  | cont e1 S1 => rw [q] at p; exact p
  | ret d S1 => rw [q] at p; exact p
  | exc c e1 S1 => rw [q] at p; exact p
theorem z_one (h1 : PS X st (tS X.K cA W sa)) : PSs X [st] (tS X.K cA W sa) := pss_one h1
theorem s_pass : PS X (.Pass pos) (tS X.K cA W sPass) := PSi ps_pass fun D' σ H ⟨B, ι, e, S, re, p⟩ => p ι σ H Fr.refl re
theorem s_doc {x j pos pos'} : PS X (.Expr (.Constant (.str x) j pos) pos') (tS X.K cA W sPass) := PSi ps_doc fun D' σ H ⟨B, ι, e, S, re, p⟩ => p ι σ H Fr.refl re
theorem s_brk : PS X (.Break pos) (tS X.K cA W sBrk) := PSi ps_break fun D' σ H ⟨B, ι, e, S, re, p⟩ => p ι σ H Fr.refl re
theorem s_cont : PS X (.Continue pos) (tS X.K cA W sCont) := PSi ps_continue fun D' σ H ⟨B, ι, e, S, re, p⟩ => p ι σ H Fr.refl re
theorem s_ex (h : PE X a (tE X.K cA W ma)) (hs : swapsWith a none pos.line X.env = pure false := by rfl) : PS X (.Expr a pos) (tS X.K cA W (sEx ma)) := PSi (ps_expr h hs) fun D' σ H ⟨B, ι, e, S, re, p⟩ =>
  .of re (po_bindS re p fun ι1 v1 H1 d1 S1 f1 r1 rd1 p1 => p1 ι1 σ H1 Fr.refl r1)
theorem s_ret (h : PE X a (tE X.K cA W ma)) : PS X (.Return (some a) pos) (tS X.K cA W (sRet ma)) := PSi (ps_ret h) fun D' σ H ⟨B, ι, e, S, re, p⟩ =>
  .of re (po_bindS re p fun ι1 v1 H1 d1 S1 f1 r1 rd1 p1 => p1 ι1 v1 H1 Fr.refl r1.rs rd1)
theorem s_retN : PS X (.Return none pos) (tS X.K cA W sRetN) := PSi ps_retN fun D' σ H ⟨B, ι, e, S, re, p⟩ => p ι .non H Fr.refl re.rs RD.mk_non
theorem Rel.set (r : Rel K cA B ι e S σ H) {i : Nat} {d : D} {v : V} (rd : RD K B ι H d v) : Rel K cA B ι (e.set i (some d)) S (σ.set i (some v)) H := ⟨r.rs, by rw [List.length_set, List.length_set]; exact r.len, fun j d' h => by
  by_cases hj : i = j
  · subst hj
    by_cases hi : i < e.length
    · rw [List.getElem?_set_self hi] at h
      cases h
      exact ⟨v, List.getElem?_set_self (by rw [← r.len]; exact hi), rd⟩
    · rw [List.getElem?_eq_none (by rw [List.length_set]; omega)] at h; cases h
  · rw [List.getElem?_set_ne hj] at h
    obtain ⟨u, h1, h2⟩ := r.ev j d' h
    exact ⟨u, by rw [List.getElem?_set_ne hj]; exact h1, h2⟩⟩
theorem s_set {i : Nat} (h : PS X st (tAsg (tE X.K cA W ma) (gName i))) : PS X st (tS X.K cA W (sSet i ma)) := PSi h fun D' σ H ⟨B, ι, e, S, re, p⟩ =>
  .of re (po_bindS re p fun ι1 v1 H1 d1 S1 f1 r1 rd1 p1 => p1 ι1 _ H1 Fr.refl (r1.set rd1))
theorem s_if {xc : MB} {sas sbs : List Stmt} (hc : PT X c (tT X.K cA W xc)) (ha : PSs X sas (tS X.K cA W sa)) (hb : PSs X sbs (tS X.K cA W sb)) : PS X (.If c sas sbs pos) (tS X.K cA W (sIf xc sa sb)) := PSi (ps_if hc ha hb) fun D' σ H ⟨B, ι, e, S, re, p⟩ =>
  .of re (poB_bindS re p fun ι1 H1 k S1 f1 r1 p1 => by
    cases k with
    | true => exact .of r1 p1
    | false => exact .of r1 p1)

/-! ### targets -/
abbrev MTg := D → En → Option En
def TgD (K : PySem.W.Frag) (cA : Str → Addr) (g : TG) (m : MTg) (sl : List Nat) : Prop := ∀ (B : Addr → Prop) (ι : List Addr) (e e' : En) (S : Sto) (σ : L2.St) (H : Hp) (d : D) (v : V) (Q : L2.St → Hp → Prop), Rel K cA B ι e S σ H → RD K B ι H d v → m d e = some e' → (∀ σ', Rel K cA B ι e' S σ' H → (∀ vs, (∀ i ∈ sl, i ∈ vs) → wipe σ' vs = wipe σ vs) → Q σ' H) → g v σ H Q
abbrev MTgs := List D → En → Option En
def TgsD (K : PySem.W.Frag) (cA : Str → Addr) (g : TGs) (m : MTgs) (sl : List Nat) : Prop := ∀ (B : Addr → Prop) (ι : List Addr) (e e' : En) (S : Sto) (σ : L2.St) (H : Hp) (ds : List D) (vs : List V) (Q : L2.St → Hp → Prop), Rel K cA B ι e S σ H → RDs K B ι H ds vs → m ds e = some e' → (∀ σ', Rel K cA B ι e' S σ' H → (∀ vs, (∀ i ∈ sl, i ∈ vs) → wipe σ' vs = wipe σ vs) → Q σ' H) → g vs σ H Q
def mNm (i : Nat) : MTg := fun d e => some (e.set i (some d))
def mNil : MTgs := fun ds e => match ds with | [] => some e | _ => none
def mCons (t : MTg) (u : MTgs) : MTgs := fun ds e => match ds with | d :: r => (t d e).bind fun e' => u r e' | [] => none
def mTup (n : Nat) (u : MTgs) : MTg := fun d e => match d with | .tup ds => if ds.length = n then u ds e else none | _ => none
theorem wipe_set {σ : L2.St} {i : Nat} {x : Option V} : ∀ {vs : List Nat}, i ∈ vs → wipe (σ.set i x) vs = wipe σ vs
  | [], h => by cases h
  | v :: vs, h => by
    unfold wipe
    by_cases hi : i ∈ vs
    · rw [wipe_set hi]
    · have hv : i = v := by
        rcases List.mem_cons.mp h with h | h
        · exact h
        · exact absurd h hi
      subst hv
      have : ∀ (us : List Nat) (τ : L2.St), i ∉ us → wipe (τ.set i x) us = (wipe τ us).set i x := by
        intro us
        induction us with
        | nil => intro τ _; rfl
        | cons u us ih =>
          intro τ hu
          unfold wipe
          rw [ih τ (fun z => hu (List.mem_cons_of_mem _ z)), List.set_comm _ _ (fun z => hu (by first | (rw [z]; exact List.mem_cons_self) | (rw [← z]; exact List.mem_cons_self)))]
      rw [this vs σ hi, List.set_set]
theorem wipe_wipe (σ : L2.St) (vs : List Nat) : wipe (wipe σ vs) vs = wipe σ vs := by
  have : ∀ us : List Nat, (∀ i ∈ us, i ∈ vs) → ∀ τ : L2.St, wipe τ vs = wipe σ vs → wipe (wipe τ us) vs = wipe σ vs := by
    intro us
    induction us with
    | nil => intro _ τ h; exact h
    | cons u us ih =>
      intro hu τ h
      show wipe ((wipe τ us).set u none) vs = _
      rw [wipe_set (hu u List.mem_cons_self)]
      exact ih (fun i hi => hu i (List.mem_cons_of_mem _ hi)) τ h
  exact this vs (fun _ h => h) σ rfl
theorem g_nm {i : Nat} : TgD K cA (gName i) (mNm i) [i] := fun B ι e e' S σ H d v Q r rd h q => by
  cases h; exact q _ (r.set rd) fun vs hv => wipe_set (hv i (by simp))
theorem g_nil : TgsD K cA gNil mNil [] := fun B ι e e' S σ H ds vs Q r rd h q => by
  unfold mNil at h
  split at h
  · cases h; exact ⟨rd.nil_inv, q _ r fun _ _ => rfl⟩
  · cases h
theorem g_cons {g : TG} {gs : TGs} {m : MTg} {ms : MTgs} {sl sl' : List Nat} (h1 : TgD K cA g m sl) (h2 : TgsD K cA gs ms sl') : TgsD K cA (gCons g gs) (mCons m ms) (sl ++ sl') := fun B ι e e' S σ H ds vs Q r rd h q => by
  unfold mCons at h
  split at h
  · rename_i d t
    obtain ⟨v, u, rfl, h3, h4⟩ := rd.cons_inv
    cases e1 : m d e with
    | none => rw [e1] at h; cases h
    | some ee =>
      rw [e1] at h
      exact ⟨v, u, rfl, h1 B ι e ee S σ H d v _ r h3 e1 fun σ' r' w1 => h2 B ι ee e' S σ' H t u Q r' h4 h fun σ2 r2 w2 => q σ2 r2 fun vs hv => (w2 vs fun i hi => hv i (List.mem_append_right _ hi)).trans (w1 vs fun i hi => hv i (List.mem_append_left _ hi))⟩
  · cases h
theorem g_tup {n : Nat} {gs : TGs} {ms : MTgs} {sl : List Nat} (h2 : TgsD K cA gs ms sl) : TgD K cA (gTup K n gs) (mTup n ms) sl := fun B ι e e' S σ H d v Q r rd h q => by
  unfold mTup at h
  split at h
  · rename_i ds
    split at h
    · rename_i hl
      obtain ⟨a, xs, rfl, h3, h4⟩ := rd.tup
      exact ⟨a, xs, rfl, h3.sq, by rw [← h4.len]; exact hl, h2 B ι e e' S σ H ds xs Q r h4 h q⟩
    · cases h
  · cases h
def sAsg (t : MTg) (m : ME) : MS := fun e S => (m e S).bindS e fun d S1 => match t d e with | some e' => .nx e' S1 | none => .bad
theorem s_asg {g : TG} {m : MTg} {sl : List Nat} (ht : TgD X.K cA g m sl) (h : PS X st (tAsg (tE X.K cA W ma) g)) : PS X st (tS X.K cA W (sAsg m ma)) := PSi h fun D' σ H ⟨B, ι, e, S, re, p⟩ =>
  .of re (po_bindS re p fun ι1 v1 H1 d1 S1 f1 r1 rd1 p1 => by
    cases q : m d1 e with
    | none => rw [q] at p1; exact p1.elim
    | some e' =>
      rw [q] at p1
      exact ht B ι1 e e' S1 σ H1 d1 v1 _ r1 rd1 q fun σ' r' _ => p1 ι1 σ' H1 Fr.refl r')

/-! ### what is walked -/
structure Wk (K : PySem.W.Frag) (B : Addr → Prop) (J : It) (ds : List D) (ok : List Addr → Hp → Prop) : Prop where
  go : ∀ i ι H, i < ds.length → ok ι H → J.go i H
  stop : ∀ ι H, ok ι H → J.stop ds.length H
  yld : ∀ i ι H x H' d, ds[i]? = some d → ok ι H → J.yld i H x H' → Same H H' ∧ RD K B ι H' d x
theorem wk_list {a : Addr} {ds : List D} : Wk K B (Itl K a) ds (fun ι H => ∃ xs, SqL K H a xs ∧ RDs K B ι H ds xs) where
  go := fun i ι H hi ⟨xs, h, r⟩ => ⟨xs, xs[i]'(by rw [← r.len]; exact hi), h, by simp⟩
  stop := fun ι H ⟨xs, h, r⟩ => ⟨xs, h, by rw [r.len]; exact Nat.le_refl _⟩
  yld := fun i ι H x H' d hd ⟨xs, h, r⟩ ⟨e, y⟩ => by
    subst e
    obtain ⟨v, h1, h2⟩ := r.get hd
    have := y xs h
    rw [h1] at this; cases this
    exact ⟨same_refl, h2⟩
theorem wk_tup {a : Addr} {ds : List D} : Wk K B (Itt K a) ds (fun ι H => ∃ xs, FT K B ι H a xs ∧ RDs K B ι H ds xs) where
  go := fun i ι H hi ⟨xs, h, r⟩ => ⟨xs, xs[i]'(by rw [← r.len]; exact hi), h.sq, by simp⟩
  stop := fun ι H ⟨xs, h, r⟩ => ⟨xs, h.sq, by rw [r.len]; exact Nat.le_refl _⟩
  yld := fun i ι H x H' d hd ⟨xs, h, r⟩ ⟨e, y⟩ => by
    subst e
    obtain ⟨v, h1, h2⟩ := r.get hd
    have := y xs h.sq
    rw [h1] at this; cases this
    exact ⟨same_refl, h2⟩
/-- the signs of a text -/
def signs (x : Str) : List D := x.cps.toList.map fun c => .str ⟨#[c]⟩
theorem wk_str {x : Str} : Wk K B (Its x) (signs x) (fun _ _ => True) where
  go := fun i ι H hi _ => by
    show i < x.cps.size
    simpa [signs] using hi
  stop := fun ι H _ => by
    show x.cps.size ≤ _
    simp [signs]
  yld := fun i ι H y H' d hd _ ⟨e, c, h1, h2⟩ => by
    subst e h2
    unfold signs at hd
    rw [List.getElem?_map, Array.getElem?_toList, h1] at hd
    cases hd
    exact ⟨same_refl, RD.mk_str⟩
/-- lo, lo + 1, .. -/
def rng (lo : Int) (n : Nat) : List D := (List.range n).map fun (k : Nat) => D.int (lo + (k : Int))
theorem wk_rng {lo : Int} {n : Nat} : Wk K B (Itr lo n) (rng lo n) (fun _ _ => True) where
  go := fun i ι H hi _ => by
    show i < n
    simpa [rng] using hi
  stop := fun ι H _ => by
    show n ≤ _
    simp [rng]
  yld := fun i ι H y H' d hd _ ⟨e, h1⟩ => by
    subst e h1
    unfold rng at hd
    rw [List.getElem?_map] at hd
    cases q : (List.range n)[i]? with
    | none => rw [q] at hd; cases hd
    | some k =>
      rw [q] at hd; cases hd
      have : k = i := by
        have := (List.getElem?_eq_some_iff.mp q).2
        simpa using this.symm
      subst this
      exact ⟨same_refl, RD.mk_int⟩

/-! ### for -/
open Classical in
/-- the turns of a loop; C: what is walked stands as it stood -/
noncomputable def forD (C : Sto → Prop) (tg : MTg) (body : MS) : List D → En → Sto → RS'
  | [], e, S => if C S then .nx e S else .bad
  | d :: ds, e, S => if C S then match tg d e with
      | none => .bad
      | some e' => match body e' S with
        | .nx e2 S2 => forD C tg body ds e2 S2
        | .cont e2 S2 => forD C tg body ds e2 S2
        | .brk e2 S2 => .nx e2 S2
        | r => r
    else .bad
/-- the loop by its walk -/
theorem for_wk {J : It} {ds : List D} {ok : List Addr → Hp → Prop} {C : Sto → Prop} {g : TG} {m : MTg} {body : MS} {D' : Ends} {sl : List Nat} (wk : Wk K B J ds ok) (ht : TgD K cA g m sl)
    (hok : ∀ ι' e S' σ H', Fr ι ι' H H' → Rel K cA B ι' e S' σ H' → C S' → ok ι' H') (r : Rel K cA B ι e S σ H) (p : PoS K cA W B (forD C m body ds e S) ι H D') :
    ∃ Wd : Nat → Nat → L2.St → Hp → Prop, (∃ n, Wd 0 n σ H) ∧ ∀ i n σ H, Wd i n σ H →
      (J.stop i H ∧ D'.nx σ H) ∨ (J.go i H ∧ ∃ N : L2.St → Hp → Prop, (∀ σ' H', N σ' H' → ∃ n', n' < n ∧ Wd (i + 1) n' σ' H') ∧ ∀ x H', J.yld i H x H' → g x σ H' fun σ2 H2 => tS K cA W body { D' with nx := N, ct := N, bk := D'.nx } σ2 H2) := by
  refine ⟨fun i n σ1 H1 => n + i = ds.length ∧ ∃ ι1 e1 S1, Fr ι ι1 H H1 ∧ Rel K cA B ι1 e1 S1 σ1 H1 ∧ PoS K cA W B (forD C m body (ds.drop i) e1 S1) ι1 H1 D', ⟨ds.length, by simp, ι, e, S, Fr.refl, r, by simpa using p⟩, ?_⟩
  rintro i n σ1 H1 ⟨hn, ι1, e1, S1, f1, r1, p1⟩
  by_cases hi : i < ds.length
  · rw [List.drop_eq_getElem_cons hi] at p1
    unfold forD at p1
    by_cases hC : C S1
    · rw [if_pos hC] at p1
      have hok1 := hok ι1 e1 S1 σ1 H1 f1 r1 hC
      cases q : m ds[i] e1 with
      | none => rw [q] at p1; exact p1.elim
      | some e2 =>
        rw [q] at p1
        refine .inr ⟨wk.go i ι1 H1 hi hok1, fun σ3 H3 => ∃ ι3 e3 S3, Fr ι ι3 H H3 ∧ Rel K cA B ι3 e3 S3 σ3 H3 ∧ PoS K cA W B (forD C m body (ds.drop (i + 1)) e3 S3) ι3 H3 D', fun σ3 H3 ⟨ι3, e3, S3, f3, r3, p3⟩ => ⟨n - 1, by omega, by omega, ι3, e3, S3, f3, r3, p3⟩, fun x H2 y => ?_⟩
        obtain ⟨sm, rd⟩ := wk.yld i ι1 H1 x H2 ds[i] (List.getElem?_eq_getElem hi) hok1 y
        have r1' : Rel K cA B ι1 e1 S1 σ1 H2 := r1.fr (Fr.same sm) (r1.rs.same sm)
        refine ht B ι1 e1 e2 S1 σ1 H2 ds[i] x _ r1' rd q fun σ2 r2 _ => .of r2 ?_
        have f2 : Fr ι ι1 H H2 := f1.trans (Fr.same sm)
        simp only at p1
        cases q2 : body e2 S1 with
        | bad => rw [q2] at p1; exact p1
        | nx e3 S3 => rw [q2] at p1; exact fun ι3 σ3 H3 f3 r3 => ⟨ι3, e3, S3, f2.trans f3, r3, PoS.on ((Fr.same sm).trans f3) p1⟩
        | cont e3 S3 => rw [q2] at p1; exact fun ι3 σ3 H3 f3 r3 => ⟨ι3, e3, S3, f2.trans f3, r3, PoS.on ((Fr.same sm).trans f3) p1⟩
        | brk e3 S3 => rw [q2] at p1; exact fun ι3 σ3 H3 f3 r3 => p1 ι3 σ3 H3 ((Fr.same sm).trans f3) r3
        | ret d S3 => rw [q2] at p1; exact fun ι3 v H3 f3 r3 d3 => p1 ι3 v H3 ((Fr.same sm).trans f3) r3 d3
        | exc c e3 S3 => rw [q2] at p1; exact fun ι3 σ3 H3 f3 r3 => p1 ι3 σ3 H3 ((Fr.same sm).trans f3) r3
    · rw [if_neg hC] at p1; exact p1.elim
  · rw [List.drop_eq_nil_of_le (by omega)] at p1
    unfold forD at p1
    by_cases hC : C S1
    · rw [if_pos hC] at p1
      have e : i = ds.length := by omega
      subst e
      exact .inl ⟨wk.stop ι1 H1 (hok ι1 e1 S1 σ1 H1 f1 r1 hC), p1 ι1 σ1 H1 Fr.refl r1⟩
    · rw [if_neg hC] at p1; exact p1.elim
def iAny (K : PySem.W.Frag) (t : TE) : TI := fun σ H R => iList K t σ H R ∨ iTup K t σ H R ∨ iStr t σ H R
theorem pi_any {tg : Expr} {t : TE} (h : PE X a t) : PI X tg a (iAny X.K t) := ⟨fun pins s σ H R I q => by
  rcases q with q | q | q
  · exact (pi_list h).run pins s σ H R I q
  · exact (pi_tup h).run pins s σ H R I q
  · exact (pi_str h).run pins s σ H R I q⟩
/-- the items of what is walked -/
def items (S : Sto) (d : D) : Option (List D) := match view S d with
  | .lst ds => some ds
  | .tup ds => some ds
  | .str x => some (signs x)
  | _ => none
noncomputable def sFor (it : ME) (tg : MTg) (body : MS) : MS := fun e S => (it e S).bindS e fun d S1 => match items S1 d with
  | some ds => forD (fun S' => view S' d = view S1 d) tg body ds e S1
  | none => .bad
/-- what stands at v is walked by its items -/
theorem wk_any {S1 : Sto} {d : D} {v : V} {ds : List D} (rs : RS K cA B ι S1 H) (rd : RD K B ι H d v) (h : items S1 d = some ds) : (∃ a, v = .ref a ∧ (∃ xs, SqL K H a xs) ∧ ∃ ok, Wk K B (Itl K a) ds ok ∧ ∀ ι' S' H', Fr ι ι' H H' → RS K cA B ι' S' H' → view S' d = view S1 d → ok ι' H') ∨
    (∃ a, v = .ref a ∧ (∃ xs, SqT K H a xs) ∧ ∃ ok, Wk K B (Itt K a) ds ok ∧ ∀ ι' S' H', Fr ι ι' H H' → RS K cA B ι' S' H' → view S' d = view S1 d → ok ι' H') ∨ (∃ x, v = .str x ∧ ∃ ok, Wk K B (Its x) ds ok ∧ ∀ ι' S' H', Fr ι ι' H H' → RS K cA B ι' S' H' → view S' d = view S1 d → ok ι' H') := by
  unfold items at h
  split at h
  · rename_i es q
    cases h
    obtain ⟨a, xs, rfl, h1, h2⟩ := v_lst rs rd q
    refine .inl ⟨a, rfl, ⟨xs, h1⟩, _, wk_list, fun ι' S' H' f rs' hv => ?_⟩
    obtain ⟨a', ys, e, h3, h4⟩ := v_lst rs' (RD.fr f _ _ rd) (hv.trans q)
    cases e
    exact ⟨ys, h3, h4⟩
  · rename_i es q
    cases h
    obtain ⟨a, xs, rfl, h1, h2⟩ := v_tup rd q
    refine .inr (.inl ⟨a, rfl, ⟨xs, h1.sq⟩, _, wk_tup, fun ι' S' H' f rs' hv => ?_⟩)
    exact ⟨xs, h1.fr f, RDs.fr f _ _ h2⟩
  · rename_i x q
    cases h
    exact .inr (.inr ⟨x, v_str rd q, _, wk_str, fun _ _ _ _ _ _ => True.intro⟩)
  · cases h
theorem s_for {g : TG} {m : MTg} {sl : List Nat} {tg it : Expr} {body : List Stmt} {mi : ME} (hp : PassesOwn (model X.prog X.w) X.A X.env X.xe) (hc : X.calm = true) (hi : PE X it (tE X.K cA W mi)) (hg : PG X tg g) (ht : TgD X.K cA g m sl) (hb : PSs X body (tS X.K cA W sb))
    (hs : ∀ x, foldedSetIterable it X.env x = pure x := by intro _; rfl) : PS X (.For tg it body [] pos) (tS X.K cA W (sFor mi m sb)) := PSi (ps_for hp hc (pi_any hi) hg hb hs) fun D' σ H ⟨B, ι, e, S, re, p⟩ => by
  unfold sFor RE.bindS at p
  show iAny X.K _ σ H _
  cases q : mi e S with
  | bad => rw [q] at p; exact p.elim
  | exc c S1 => rw [q] at p; exact .inl (.of re (by rw [q]; exact fun ι' H' fr rs => p ι' σ H' fr (re.fr fr rs)))
  | ok d S1 =>
    rw [q] at p
    simp only at p
    cases q2 : items S1 d with
    | none => rw [q2] at p; exact p.elim
    | some ds =>
      rw [q2] at p
      simp only at p
      -- which kind: told by the value's data alone
      have go : ∀ {ι1 H1 v}, Fr ι ι1 H H1 → RS X.K cA B ι1 S1 H1 → RD X.K B ι1 H1 d v → _ := fun {ι1 H1 v} f1 rs1 rd1 => wk_any rs1 rd1 q2
      have fin : ∀ {ι1 H1 J ok}, Fr ι ι1 H H1 → RS X.K cA B ι1 S1 H1 → Wk X.K B J ds ok → (∀ ι' S' H', Fr ι1 ι' H1 H' → RS X.K cA B ι' S' H' → view S' d = view S1 d → ok ι' H') → _ := fun {ι1 H1 J ok} f1 rs1 wk hok =>
        for_wk (C := fun S' => view S' d = view S1 d) (g := g) (m := m) (body := sb) (D' := D') wk ht (fun ι' e S' σ H' f r c => hok ι' S' H' f r.rs c) (re.fr f1 rs1) (PoS.on f1 p)
      unfold items at q2
      split at q2
      · refine .inl (.of re ?_)
        rw [q]
        intro ι1 v H1 f1 rs1 rd1
        rename_i es hv
        obtain ⟨a, xs, rfl, h1, h2⟩ := v_lst rs1 rd1 hv
        cases q2
        refine ⟨a, rfl, ⟨xs, h1⟩, fin f1 rs1 wk_list fun ι' S' H' f rs' hv' => ?_⟩
        obtain ⟨a', ys, e', h3, h4⟩ := v_lst rs' (RD.fr f _ _ rd1) (hv'.trans hv)
        cases e'
        exact ⟨ys, h3, h4⟩
      · refine .inr (.inl (.of re ?_))
        rw [q]
        intro ι1 v H1 f1 rs1 rd1
        rename_i es hv
        obtain ⟨a, xs, rfl, h1, h2⟩ := v_tup rd1 hv
        cases q2
        exact ⟨a, rfl, ⟨xs, h1.sq⟩, fin f1 rs1 wk_tup fun ι' S' H' f rs' hv' => ⟨xs, h1.fr f, RDs.fr f _ _ h2⟩⟩
      · refine .inr (.inr (.of re ?_))
        rw [q]
        intro ι1 v H1 f1 rs1 rd1
        rename_i x hv
        cases q2
        exact ⟨x, v_str rd1 hv, fin f1 rs1 wk_str fun _ _ _ _ _ _ => True.intro⟩
      · cases q2
/-- for .. in range(n) -/
noncomputable def sForR (it : ME) (tg : MTg) (body : MS) : MS := fun e S => (it e S).bindS e fun d S1 => match d with
  | .int n => if -(2 ^ 62) ≤ n ∧ n < 2 ^ 62 then forD (fun _ => True) tg body (rng 0 n.toNat) e S1 else .bad
  | _ => .bad
theorem s_forR {g : TG} {m : MTg} {sl : List Nat} {tg : Expr} {body : List Stmt} {mi : ME} {p : Pos} {pos' : Pos} (hp : PassesOwn (model X.prog X.w) X.A X.env X.xe) (hc : X.calm = true) (hgl : Gl X "range") (hm : X.mg "range" = none) (hi : PA X [a] (tA X.K cA W (aC mi aN))) (hg : PG X tg g) (ht : TgD X.K cA g m sl) (hb : PSs X body (tS X.K cA W sb))
    (hs : ∀ x, foldedSetIterable (.Call (.Name "range" p) [a] [] pos') X.env x = pure x := by intro _; rfl) (hst : starEach [a] X.env = [(false, eval a X.env)] := by rfl) : PS X (.For tg (.Call (.Name "range" p) [a] [] pos') body [] pos) (tS X.K cA W (sForR mi m sb)) :=
  PSi (ps_for hp hc (pi_range1 hgl hm hi hst) hg hb hs) fun D' σ H ⟨B, ι, e, S, re, p⟩ => by
  unfold sForR RE.bindS at p
  refine (show tA X.K cA W (aC mi aN) σ H _ from .of re ?_)
  unfold aC RE.bindA
  cases q : mi e S with
  | bad => rw [q] at p; exact p.elim
  | exc c S1 => rw [q] at p; exact fun ι' H' fr rs => p ι' σ H' fr (re.fr fr rs)
  | ok d S1 =>
    rw [q] at p
    simp only at p
    intro ι1 vs H1 f1 rs1 rd1
    split at p
    · rename_i n
      split at p
      · rename_i hn
        obtain ⟨v, rfl, rd2⟩ := rd1.one
        refine ⟨n, by rw [rd2.int], hn.1, hn.2, ?_⟩
        exact for_wk (C := fun _ => True) (g := g) (m := m) (body := sb) (D' := D') wk_rng ht (fun _ _ _ _ _ _ _ _ => True.intro) (re.fr f1 rs1) (PoS.on f1 p)
      · exact p.elim
    · exact p.elim
/-! ### while -/
/-- the turns, n of them at most -/
def whD (c : MB) (body : MS) : Nat → En → Sto → RS'
  | 0, _, _ => .bad
  | n + 1, e, S => (c e S).bindS e fun k S1 => if k = true then match body e S1 with
      | .nx e2 S2 => whD c body n e2 S2
      | .cont e2 S2 => whD c body n e2 S2
      | .brk e2 S2 => .nx e2 S2
      | r => r
    else .nx e S1
theorem whD_mono {c : MB} {body : MS} : ∀ {n : Nat} {e : En} {S : Sto}, whD c body n e S ≠ .bad → whD c body (n + 1) e S = whD c body n e S
  | 0, e, S, h => absurd rfl h
  | n + 1, e, S, h => by
    rw [whD] at h
    rw [whD, whD]
    unfold RB.bindS at h ⊢
    cases q : c e S with
    | bad => rfl
    | exc _ _ => rfl
    | ok k S1 =>
      rw [q] at h
      simp only at h ⊢
      by_cases hk : k = true
      · rw [if_pos hk] at h ⊢
        rw [if_pos hk]
        cases q2 : body e S1 with
        | nx e2 S2 => rw [q2] at h; exact whD_mono h
        | cont e2 S2 => rw [q2] at h; exact whD_mono h
        | _ => rfl
      · rw [if_neg hk, if_neg hk]
theorem whD_le {c : MB} {body : MS} {n m : Nat} {e : En} {S : Sto} (h : whD c body n e S ≠ .bad) (hm : n ≤ m) : whD c body m e S = whD c body n e S := by
  induction hm with
  | refl => rfl
  | step _ ih => rw [whD_mono (by rw [ih]; exact h), ih]
open Classical in
noncomputable def sWh (c : MB) (body : MS) : MS := fun e S => if h : ∃ n, whD c body n e S ≠ .bad then whD c body h.choose e S else .bad
theorem sWh_of {c : MB} {body : MS} {n : Nat} {e : En} {S : Sto} {r : RS'} (h : whD c body n e S = r) (hr : r ≠ .bad) : sWh c body e S = r := by
  have h' : whD c body n e S ≠ .bad := by rw [h]; exact hr
  have hx : ∃ n, whD c body n e S ≠ .bad := ⟨n, h'⟩
  unfold sWh
  rw [dif_pos hx]
  rcases Nat.le_total n hx.choose with z | z
  · rw [whD_le h' z, h]
  · rw [← whD_le hx.choose_spec z, h]
theorem s_wh {xc : MB} {body : List Stmt} (hp : PassesOwn (model X.prog X.w) X.A X.env X.xe) (hc : PT X c (tT X.K cA W xc)) (hb : PSs X body (tS X.K cA W sb)) : PS X (.While c body [] pos) (tS X.K cA W (sWh xc sb)) := PSi (ps_while hp hc hb) fun D' σ H ⟨B, ι, e, S, re, p⟩ => by
  unfold sWh at p
  split at p
  · rename_i hx
    generalize hx.choose = n at p
    refine ⟨fun n σ1 H1 => ∃ ι1 e1 S1, Fr ι ι1 H H1 ∧ Rel X.K cA B ι1 e1 S1 σ1 H1 ∧ PoS X.K cA W B (whD xc sb n e1 S1) ι1 H1 D', ⟨n, ι, e, S, Fr.refl, re, p⟩, ?_⟩
    rintro n σ1 H1 ⟨ι1, e1, S1, f1, r1, p1⟩
    cases n with
    | zero => exact p1.elim
    | succ n =>
      rw [whD] at p1
      refine .of r1 (poB_bindS r1 p1 fun ι2 H2 k S2 f2 r2 p2 => ?_)
      cases k with
      | false => exact p2 ι2 σ1 H2 Fr.refl r2
      | true =>
        refine ⟨fun σ3 H3 => ∃ ι3 e3 S3, Fr ι ι3 H H3 ∧ Rel X.K cA B ι3 e3 S3 σ3 H3 ∧ PoS X.K cA W B (whD xc sb n e3 S3) ι3 H3 D', fun σ3 H3 ⟨ι3, e3, S3, f3, r3, p3⟩ => ⟨n, Nat.lt_succ_self _, ι3, e3, S3, f3, r3, p3⟩, .of r2 ?_⟩
        rw [if_pos rfl] at p2
        cases q2 : sb e1 S2 with
        | bad => rw [q2] at p2; exact p2
        | nx e3 S3 => rw [q2] at p2; exact fun ι3 σ3 H3 f3 r3 => ⟨ι3, e3, S3, (f1.trans f2).trans f3, r3, PoS.on f3 p2⟩
        | cont e3 S3 => rw [q2] at p2; exact fun ι3 σ3 H3 f3 r3 => ⟨ι3, e3, S3, (f1.trans f2).trans f3, r3, PoS.on f3 p2⟩
        | brk e3 S3 => rw [q2] at p2; exact p2
        | ret d S3 => rw [q2] at p2; exact p2
        | exc c e3 S3 => rw [q2] at p2; exact p2
  · exact p.elim
end
end DL

/-! The data layer: comprehensions, functions, calls. -/
namespace DL
open PySem PySem.Spec PyProof.Rows L2
section
variable {X : Cx} {K : PySem.W.Frag} {cA : Str → Addr} {W : WX} {B B' : Addr → Prop} {ι ι' : List Addr} {S : Sto} {H H' : Hp} {σ : L2.St} {e : En}
variable {a b c : Expr} {es : List Expr} {ma mb mc : ME} {xs : MA} {pos : Pos} {st : Stmt} {sts : List Stmt} {sa sb : MS}

/-! ### another region of changing things, another heap -/
mutual
theorem RD.mv (hT : ∀ b xs, FT K B ι H b xs → FT K B' ι H' b xs) (hL : ∀ b xs, FL B ι H b xs → FL B' ι H' b xs) (hD : ∀ b kvs, b ∉ ι → ¬ B b → H b = some (.dK kvs) → ¬ B' b ∧ H' b = some (.dK kvs)) :
    ∀ (d : D) (v : V), RD K B ι H d v → RD K B' ι H' d v
  | .non, v, h => by rw [RD] at h ⊢; exact h
  | .bl b, v, h => by rw [RD] at h ⊢; exact h
  | .int i, v, h => by rw [RD] at h ⊢; exact h
  | .str x, v, h => by rw [RD] at h ⊢; exact h
  | .tup ds, v, h => by
    rw [RD] at h ⊢
    obtain ⟨a, xs, e, h1, h2⟩ := h
    exact ⟨a, xs, e, hT a xs h1, RDs.mv hT hL hD ds xs h2⟩
  | .lst ds, v, h => by
    rw [RD] at h ⊢
    obtain ⟨a, xs, e, h1, h2⟩ := h
    exact ⟨a, xs, e, hL a xs h1, RDs.mv hT hL hD ds xs h2⟩
  | .dct ks ds, v, h => by
    rw [RD] at h ⊢
    obtain ⟨a, xs, e, h1, h2, h3, h4, h5⟩ := h
    obtain ⟨h6, h7⟩ := hD a _ h1 h2 h3
    exact ⟨a, xs, e, h1, h6, h7, h4, RDs.mv hT hL hD ds xs h5⟩
  | .obj n, v, h => by
    rw [RD] at h ⊢
    exact h
  | .scr ds, v, h => by
    rw [RD] at h ⊢
    obtain ⟨a, xs, e, h1, h2⟩ := h
    exact ⟨a, xs, e, h1.imp (hL a xs) _root_.id, RDs.mv hT hL hD ds xs h2⟩
theorem RDs.mv (hT : ∀ b xs, FT K B ι H b xs → FT K B' ι H' b xs) (hL : ∀ b xs, FL B ι H b xs → FL B' ι H' b xs) (hD : ∀ b kvs, b ∉ ι → ¬ B b → H b = some (.dK kvs) → ¬ B' b ∧ H' b = some (.dK kvs)) :
    ∀ (ds : List D) (vs : List V), RDs K B ι H ds vs → RDs K B' ι H' ds vs
  | [], vs, h => by rw [RDs] at h ⊢; exact h
  | d :: ds, vs, h => by
    rw [RDs] at h ⊢
    obtain ⟨v, r, e, h1, h2⟩ := h
    exact ⟨v, r, e, RD.mv hT hL hD d v h1, RDs.mv hT hL hD ds r h2⟩
end
theorem FT.mB {b : Addr} {ys : List V} (h : ∀ a, B' a → B a) : FT K B ι H b ys → FT K B' ι H b ys
  | .inl ⟨h1, h2, h3⟩ => .inl ⟨h1, fun z => h2 (h _ z), h3⟩
  | .inr x => .inr x
theorem RD.mB {d : D} {v : V} (h : ∀ a, B' a → B a) (r : RD K B ι H d v) : RD K B' ι H d v :=
  RD.mv (fun _ _ x => x.mB h) (fun _ _ ⟨h1, h2, h3⟩ => ⟨h1, fun z => h2 (h _ z), h3⟩) (fun b kvs _ h2 h3 => ⟨fun z => h2 (h _ z), h3⟩) d v r
theorem RDs.mB {d : List D} {v : List V} (h : ∀ a, B' a → B a) (r : RDs K B ι H d v) : RDs K B' ι H d v :=
  RDs.mv (fun _ _ x => x.mB h) (fun _ _ ⟨h1, h2, h3⟩ => ⟨h1, fun z => h2 (h _ z), h3⟩) (fun b kvs _ h2 h3 => ⟨fun z => h2 (h _ z), h3⟩) d v r
/-- a free place p set apart -/
def plus (B : Addr → Prop) (p : Addr) : Addr → Prop := fun a => B a ∨ a = p
theorem Rd.has {u : HO} {b : Addr} (h : Rd H b u) : ∃ o, H b = some o := by
  rcases h with h | ⟨o, h⟩ <;> exact ⟨_, h⟩
theorem RD.add {p : Addr} (np : H p = none) {d : D} {v : V} (r : RD K B ι H d v) : RD K (plus B p) ι H d v :=
  RD.mv (fun b xs x => by
      rcases x with ⟨h1, h2, h3⟩ | x
      · refine .inl ⟨h1, fun z => ?_, h3⟩
        rcases z with z | z
        · exact h2 z
        · obtain ⟨o, q⟩ := Rd.has h3; rw [z, np] at q; cases q
      · exact .inr x)
    (fun b xs ⟨h1, h2, h3⟩ => by
      refine ⟨h1, fun z => ?_, h3⟩
      rcases z with z | z
      · exact h2 z
      · obtain ⟨o, q⟩ := Rd.has h3; rw [z, np] at q; cases q)
    (fun b kvs h1 h2 h3 => by
      refine ⟨fun z => ?_, h3⟩
      rcases z with z | z
      · exact h2 z
      · rw [z, np] at h3; cases h3) d v r
theorem RDs.add {p : Addr} (np : H p = none) {d : List D} {v : List V} (r : RDs K B ι H d v) : RDs K (plus B p) ι H d v := by
  induction d generalizing v with
  | nil => rw [r.nil_inv]; exact .nil
  | cons d ds ih =>
    obtain ⟨u, t, rfl, h1, h2⟩ := r.cons_inv
    exact .cons (h1.add np) (ih h2)
/-- what is set apart may change -/
theorem RD.app {p : Addr} {o : HO} {d : D} {v : V} (r : RD K (plus B p) ι H d v) : RD K (plus B p) ι (upd H p o) d v :=
  RD.mv (fun b xs x => by
      rcases x with ⟨h1, h2, h3⟩ | x
      · have hb : b ≠ p := fun z => h2 (.inr z)
        exact .inl ⟨h1, h2, by unfold Rd; rw [upd_ne hb]; exact h3⟩
      · exact .inr x)
    (fun b xs ⟨h1, h2, h3⟩ => by
      have hb : b ≠ p := fun z => h2 (.inr z)
      exact ⟨h1, h2, by unfold Rd; rw [upd_ne hb]; exact h3⟩)
    (fun b kvs h1 h2 h3 => by
      have hb : b ≠ p := fun z => h2 (.inr z)
      exact ⟨h2, by rw [upd_ne hb]; exact h3⟩) d v r
theorem RDs.app {p : Addr} {o : HO} {d : List D} {v : List V} (r : RDs K (plus B p) ι H d v) : RDs K (plus B p) ι (upd H p o) d v := by
  induction d generalizing v with
  | nil => rw [r.nil_inv]; exact .nil
  | cons d ds ih =>
    obtain ⟨u, t, rfl, h1, h2⟩ := r.cons_inv
    exact .cons h1.app (ih h2)
theorem RO.mv {a : Addr} {c : Cell} (f : ∀ d v, RDs K B ι H d v → RDs K B' ι H' d v) (ha : H' a = H a) (h : RO K cA B ι H a c) : RO K cA B' ι H' a c := by
  cases c with
  | lst ds => obtain ⟨xs, h1, h2⟩ := h; exact ⟨xs, by rw [ha]; exact h1, f _ _ h2⟩
  | dct ks ds => obtain ⟨xs, h1, h2, h3⟩ := h; exact ⟨xs, by rw [ha]; exact h1, h2, f _ _ h3⟩
  | ins C fs => obtain ⟨dx, xs, h1, h2, h3⟩ := h; exact ⟨dx, xs, by rw [ha]; exact h1, h2, f _ _ h3⟩
theorem RS.apart (r : RS K cA B ι S H) {p : Addr} {o : HO} (np : H p = none) : RS K cA (plus B p) ι S (upd H p o) := by
  have hp := not_in r np
  refine ⟨r.len, r.nd, fun a z => ?_, fun i c h => ?_⟩
  · rcases z with z | z
    · obtain ⟨h1, o', h2⟩ := r.nB a z
      exact ⟨h1, o', by rw [upd_ne (ne_of_none h2 np)]; exact h2⟩
    · subst z; exact ⟨hp, o, upd_same⟩
  · obtain ⟨a, h1, h2⟩ := r.at_ i c h
    obtain ⟨o', ho⟩ := h2.has
    exact ⟨a, h1, h2.mv (fun d v x => (x.add np).app) (by rw [upd_ne (ne_of_none ho np)])⟩
theorem RS.app {p : Addr} {o : HO} (r : RS K cA (plus B p) ι S H) : RS K cA (plus B p) ι S (upd H p o) := by
  obtain ⟨hp, o1, ho1⟩ := r.nB p (.inr rfl)
  refine ⟨r.len, r.nd, fun a z => ?_, fun i c h => ?_⟩
  · obtain ⟨h1, o', h2⟩ := r.nB a z
    refine ⟨h1, ?_⟩
    by_cases e : a = p
    · subst e; exact ⟨o, upd_same⟩
    · exact ⟨o', by rw [upd_ne e]; exact h2⟩
  · obtain ⟨a, h1, h2⟩ := r.at_ i c h
    have : a ≠ p := fun e => hp (e ▸ List.mem_of_getElem? h1)
    exact ⟨a, h1, h2.mv (fun d v x => x.app) (by rw [upd_ne this])⟩
theorem RS.less {p : Addr} (r : RS K cA (plus B p) ι S H) : RS K cA B ι S H :=
  ⟨r.len, r.nd, fun a z => r.nB a (.inl z), fun i c h => let ⟨a, h1, h2⟩ := r.at_ i c h; ⟨a, h1, h2.mv (fun d v x => x.mB fun _ z => .inl z) rfl⟩⟩

/-! ### comprehensions -/
def wipeE (e : En) : List Nat → En
  | [] => e
  | v :: vs => (wipeE e vs).set v none
theorem Rel.none (r : Rel K cA B ι e S σ H) (i : Nat) : Rel K cA B ι (e.set i .none) S (σ.set i .none) H := ⟨r.rs, by rw [List.length_set, List.length_set]; exact r.len, fun j d' h => by
  by_cases hj : i = j
  · subst hj
    by_cases hi : i < e.length
    · rw [List.getElem?_set_self hi] at h; cases h
    · rw [List.getElem?_eq_none (by rw [List.length_set]; omega)] at h; cases h
  · rw [List.getElem?_set_ne hj] at h
    obtain ⟨u, h1, h2⟩ := r.ev j d' h
    exact ⟨u, by rw [List.getElem?_set_ne hj]; exact h1, h2⟩⟩
theorem Rel.wipe (r : Rel K cA B ι e S σ H) : ∀ vs : List Nat, Rel K cA B ι (wipeE e vs) S (wipe σ vs) H
  | [] => r
  | v :: vs => (Rel.wipe r vs).none v
open Classical in
noncomputable def lcD (C : Sto → Prop) (tg : MTg) (tt : MB) (el : ME) (e0 : En) : List D → List D → Sto → RE
  | [], acc, S => if C S then .ok (.lst acc) S else .bad
  | d :: ds, acc, S => if C S then match tg d e0 with
      | none => .bad
      | some e1 => match tt e1 S with
        | .ok true S1 => match el e1 S1 with
          | .ok x S2 => if acc.length < 16777216 then lcD C tg tt el e0 ds (acc ++ [x]) S2 else .bad
          | _ => .bad
        | .ok false S1 => lcD C tg tt el e0 ds acc S1
        | _ => .bad
    else .bad
def tYs : MB := fun _ S => .ok true S
noncomputable def eLc (it : ME) (tg : MTg) (tt : MB) (el : ME) (own : List Nat) : ME := fun e S => (it e S).bind fun d S1 => match items S1 d with
  | some ds => lcD (fun S' => view S' d = view S1 d) tg tt el (wipeE e own) ds [] S1
  | none => .bad
abbrev WF : WX := fun _ _ _ _ => False
theorem lc_wk {J : It} {ds : List D} {ok : List Addr → Hp → Prop} {C : Sto → Prop} {g : TG} {m : MTg} {sl : List Nat} {tt : MB} {el : ME} {own : List Nat} {Q : VK} {p : Addr} (wk : Wk K (plus B p) J ds ok) (ht : TgD K cA g m sl) (hsl : ∀ i ∈ sl, i ∈ own) (np : H p = none)
    (hok : ∀ ι' S' H', Fr ι ι' H H' → RS K cA (plus B p) ι' S' H' → C S' → ok ι' H') (r : Rel K cA B ι e S σ H) (po : PoE K cA W B (lcD C m tt el (wipeE e own) ds [] S) ι σ H Q) :
    ∃ Wd : Nat → Nat → Hp → Prop, (∃ n, Wd 0 n (upd H p (.lst []))) ∧ ∀ i n H, Wd i n H →
      (J.stop i H ∧ Q (.ref p) H) ∨ (J.go i H ∧ ∃ Nx : Hp → Prop, (∀ H', Nx H' → ∃ n', n' < n ∧ Wd (i + 1) n' H') ∧ ∀ x H', J.yld i H x H' → g x (wipe σ own) H' fun σ2 H2 => wipe σ2 own = wipe σ own ∧ tT K cA WF tt σ2 H2 fun b H3 =>
        if b = true then tE K cA WF el σ2 H3 fun y H4 => ∃ acc, H4 p = some (.lst acc) ∧ acc.length < sizeLine ∧ Nx (upd H4 p (.lst (acc ++ [y]))) else Nx H3) := by
  refine ⟨fun i n H1 => n + i = ds.length ∧ ∃ ι1 S1 acc vs, Fr ι ι1 H H1 ∧ Rel K cA (plus B p) ι1 (wipeE e own) S1 (wipe σ own) H1 ∧ H1 p = some (.lst vs) ∧ RDs K (plus B p) ι1 H1 acc vs ∧ PoE K cA W B (lcD C m tt el (wipeE e own) (ds.drop i) acc S1) ι σ H Q, ⟨ds.length, by simp, ι, S, [], [], Fr.same (same_new np), ?_, upd_same, .nil, by simpa using po⟩, ?_⟩
  · have rw := r.wipe own
    exact ⟨r.rs.apart np, rw.len, fun i d h => let ⟨v, h1, h2⟩ := rw.ev i d h; ⟨v, h1, (h2.add np).app⟩⟩
  rintro i n H1 ⟨hn, ι1, S1, acc, vs, f1, r1, hp1, ra, p1⟩
  have nB : ¬ B p := not_B r.rs np
  have hpB : ∀ {ι3 S3 H3}, RS K cA (plus B p) ι3 S3 H3 → p ∉ ι3 := fun rs => (rs.nB p (.inr rfl)).1
  by_cases hi : i < ds.length
  · rw [List.drop_eq_getElem_cons hi] at p1
    unfold lcD at p1
    by_cases hC : C S1
    · rw [if_pos hC] at p1
      have hok1 := hok ι1 S1 H1 f1 r1.rs hC
      cases q : m ds[i] (wipeE e own) with
      | none => rw [q] at p1; exact p1.elim
      | some e2 =>
        rw [q] at p1
        simp only at p1
        refine .inr ⟨wk.go i ι1 H1 hi hok1, fun H3 => ∃ ι1 S1 acc vs, Fr ι ι1 H H3 ∧ Rel K cA (plus B p) ι1 (wipeE e own) S1 (wipe σ own) H3 ∧ H3 p = some (.lst vs) ∧ RDs K (plus B p) ι1 H3 acc vs ∧ PoE K cA W B (lcD C m tt el (wipeE e own) (ds.drop (i + 1)) acc S1) ι σ H Q, fun H3 h => ⟨n - 1, by omega, by omega, h⟩, fun x H2 y => ?_⟩
        obtain ⟨sm, rd⟩ := wk.yld i ι1 H1 x H2 ds[i] (List.getElem?_eq_getElem hi) hok1 y
        have f12 : Fr ι1 ι1 H1 H2 := Fr.same sm
        have r1' : Rel K cA (plus B p) ι1 (wipeE e own) S1 (wipe σ own) H2 := r1.fr f12 (r1.rs.same sm)
        refine ht _ ι1 _ e2 S1 _ H2 ds[i] x _ r1' rd q fun σ2 r2 hw => ⟨?_, .of r2 ?_⟩
        · rw [hw own hsl, wipe_wipe]
        cases q2 : tt e2 S1 with
        | bad => rw [q2] at p1; exact p1
        | exc c S3 => rw [q2] at p1; exact p1.elim
        | ok k S3 =>
          rw [q2] at p1
          intro ι3 H3 f3 rs3
          have f13 : Fr ι1 ι3 H1 H3 := f12.trans f3
          have hp3 : H3 p = some (.lst vs) := f13.st _ _ hp1 (hpB r1.rs)
          cases k with
          | false =>
            rw [if_neg Bool.false_ne_true]
            exact ⟨ι3, S3, acc, vs, f1.trans f13, r1.fr f13 rs3, hp3, RDs.fr f13 _ _ ra, p1⟩
          | true =>
            rw [if_pos rfl]
            simp only at p1
            refine .of (r2.fr f3 rs3) ?_
            cases q3 : el e2 S3 with
            | bad => rw [q3] at p1; exact p1
            | exc c S4 => rw [q3] at p1; exact p1.elim
            | ok z S4 =>
              rw [q3] at p1
              intro ι4 v H4 f4 rs4 rd4
              have f14 : Fr ι1 ι4 H1 H4 := f13.trans f4
              have hp4 : H4 p = some (.lst vs) := f4.st _ _ hp3 (hpB rs3)
              simp only at p1
              by_cases hz : acc.length < 16777216
              · rw [if_pos hz] at p1
                have f4' := f1.trans f14
                have r4 := r1.fr f14 rs4
                refine ⟨vs, hp4, by rw [sizeL, ← ra.len]; exact hz, ι4, S4, acc ++ [z], vs ++ [v], ⟨f4'.pre, fun a o h h2 => by
                  rw [upd_ne (ne_of_none h np)]; exact f4'.st a o h h2⟩, ⟨r4.rs.app, r4.len, fun i d h => let ⟨v, h1, h2⟩ := r4.ev i d h; ⟨v, h1, h2.app⟩⟩, upd_same, ((RDs.fr f14 _ _ ra).append (.cons rd4 .nil)).app, p1⟩
              · rw [if_neg hz] at p1; exact p1.elim
    · rw [if_neg hC] at p1; exact p1.elim
  · rw [List.drop_eq_nil_of_le (by omega)] at p1
    unfold lcD at p1
    by_cases hC : C S1
    · rw [if_pos hC] at p1
      have e' : i = ds.length := by omega
      subst e'
      exact .inl ⟨wk.stop ι1 H1 (hok ι1 S1 H1 f1 r1.rs hC), p1 ι1 _ H1 f1 r1.rs.less (.mk_lst ⟨hpB r1.rs, nB, .inl hp1⟩ (ra.mB fun _ z => .inl z))⟩
    · rw [if_neg hC] at p1; exact p1.elim
theorem items_st {S1 : Sto} {d : D} {v : V} {ds : List D} (rd : RD K B ι H d v) (h : items S1 d = some ds) : True := trivial
section
variable {it tg elt : Expr} {ifs : List Expr} {g : TG} {m : MTg} {sl : List Nat} {tt : MB} {el mi : ME} {own : List (Str × Nat)} {scope : Scope}
theorem lc_any (hg : TgD X.K cA g m sl) (hsl : ∀ i ∈ sl, i ∈ own.map (·.2)) : ∀ σ H Q, tE X.K cA W (eLc mi m tt el (own.map (·.2))) σ H Q → tLc (iAny X.K (tE X.K cA W mi)) g (tT X.K cA WF tt) (tE X.K cA WF el) (own.map (·.2)) σ H Q := fun σ H Q ⟨B, ι, e, S, re, p⟩ => by
  unfold eLc RE.bind at p
  show iAny X.K _ σ H _
  cases q : mi e S with
  | bad => rw [q] at p; exact p.elim
  | exc c S1 => rw [q] at p; exact .inl (.of re (by rw [q]; exact p))
  | ok d S1 =>
    rw [q] at p
    simp only at p
    cases q2 : items S1 d with
    | none => rw [q2] at p; exact p.elim
    | some ds =>
      rw [q2] at p
      simp only at p
      have fin : ∀ {ι1 H1 J} {ok : List Addr → Hp → Prop} (p' : Addr), Fr ι ι1 H H1 → RS X.K cA B ι1 S1 H1 → H1 p' = none → Wk X.K (plus B p') J ds ok → (∀ ι' S' H', Fr ι1 ι' H1 H' → RS X.K cA (plus B p') ι' S' H' → view S' d = view S1 d → ok ι' H') → _ := fun {ι1 H1 J ok} p' f1 rs1 np wk hok =>
        lc_wk (W := W) (C := fun S' => view S' d = view S1 d) (g := g) (m := m) (tt := tt) (el := el) (own := own.map (·.2)) (Q := Q) wk hg hsl np (fun ι' S' H' f r c => hok ι' S' H' f r c) (re.fr f1 rs1) (by
          revert p
          cases lcD (fun S' => view S' d = view S1 d) m tt el (wipeE e (own.map (·.2))) ds [] S1 with
          | bad => exact _root_.id
          | ok d2 S2 => exact fun h ι2 v2 H2 f2 r2 d2 => h ι2 v2 H2 (f1.trans f2) r2 d2
          | exc c S2 => exact fun h ι2 H2 f2 r2 => h ι2 H2 (f1.trans f2) r2)
      unfold items at q2
      split at q2
      · refine .inl (.of re ?_)
        rw [q]
        intro ι1 v H1 f1 rs1 rd1
        rename_i es hv
        obtain ⟨a, xs, rfl, h1, h2⟩ := v_lst rs1 rd1 hv
        cases q2
        refine ⟨a, rfl, ⟨xs, h1⟩, fun p' np => fin p' f1 rs1 np wk_list fun ι' S' H' f rs' hv' => ?_⟩
        obtain ⟨a', ys, e', h3, h4⟩ := v_lst rs' (RD.fr f _ _ (rd1.add np)) (hv'.trans hv)
        cases e'
        exact ⟨ys, h3, h4⟩
      · refine .inr (.inl (.of re ?_))
        rw [q]
        intro ι1 v H1 f1 rs1 rd1
        rename_i es hv
        obtain ⟨a, xs, rfl, h1, h2⟩ := v_tup rd1 hv
        cases q2
        refine ⟨a, rfl, ⟨xs, h1.sq⟩, fun p' np => fin p' f1 rs1 np wk_tup fun ι' S' H' f rs' hv' => ?_⟩
        have hd : d = .tup _ := view_ne hv (by intro _ z; cases z) (by intro _ _ z; cases z)
        subst hd
        obtain ⟨a', ys, e', h3, h4⟩ := ((RD.fr f _ _ (rd1.add np)).tup : ∃ a xs, _)
        cases e'
        exact ⟨ys, h3, h4⟩
      · refine .inr (.inr (.of re ?_))
        rw [q]
        intro ι1 v H1 f1 rs1 rd1
        rename_i x hv
        cases q2
        exact ⟨x, v_str rd1 hv, fun p' np => fin p' f1 rs1 np wk_str fun _ _ _ _ _ _ => True.intro⟩
      · cases q2
theorem q_lc (ht : TgD X.K cA g m sl) (hsl : ∀ i ∈ sl, i ∈ own.map (·.2)) (hc : X.calm = true) (hN : X.N.Nodup) (hi : PE X it (tE X.K cA W mi)) (ok : BlkOk X.N X.env.scope scope own)
    (hg : ∀ (s : Shared) (H : Hp) (C : Addr) (cl : List (Str × Addr)) (fp : List Addr), PG (X.blk s H scope (compEnvC scope cl C X.env) fp) tg g) (hx : ∀ (s : Shared) (H : Hp) (C : Addr) (cl : List (Str × Addr)) (fp : List Addr), PTs (X.blk s H scope (compEnvC scope cl C X.env) fp) ifs (tT X.K cA WF tt))
    (he : ∀ (s : Shared) (H : Hp) (C : Addr) (cl : List (Str × Addr)) (fp : List Addr), PE (X.blk s H scope (compEnvC scope cl C X.env) fp) elt (tE X.K cA WF el)) (hs : ∀ x, foldedSetIterable it X.env x = pure x := by intro _; rfl) :
    PE X (.ListComp elt [⟨tg, it, ifs, 0⟩] scope pos) (tE X.K cA W (eLc mi m tt el (own.map (·.2)))) := PEi (pe_lc hc hN (pi_any hi) ok hg hx he hs) (lc_any ht hsl)
theorem s_setLc {i : Nat} {y : Str} {py spos : Pos} (ht : TgD X.K cA g m sl) (hsl : ∀ i ∈ sl, i ∈ own.map (·.2)) (hc : X.calm = true) (hN : X.N.Nodup) (hy : X.N[i]? = some y) (hyl : X.env.scope.names.lookup y = some .local)
    (hsw : swapsWith (.ListComp elt [⟨tg, it, ifs, 0⟩] scope pos) (some (.Name y py)) spos.line X.env = pure true) (hi : PE X it (tE X.K cA W mi)) (ok : BlkOk X.N X.env.scope scope own)
    (hg : ∀ (s : Shared) (H : Hp) (C : Addr) (cl : List (Str × Addr)) (fp : List Addr), PG (X.blk s H scope (compEnvC scope cl C X.env) fp) tg g) (hx : ∀ (s : Shared) (H : Hp) (C : Addr) (cl : List (Str × Addr)) (fp : List Addr), PTs (X.blk s H scope (compEnvC scope cl C X.env) fp) ifs (tT X.K cA WF tt))
    (he : ∀ (s : Shared) (H : Hp) (C : Addr) (cl : List (Str × Addr)) (fp : List Addr), PE (X.blk s H scope (compEnvC scope cl C X.env) fp) elt (tE X.K cA WF el)) (hs : ∀ x, foldedSetIterable it X.env x = pure x := by intro _; rfl) :
    PS X (.Assign [.Name y py] (.ListComp elt [⟨tg, it, ifs, 0⟩] scope pos) spos) (tS X.K cA W (sSet i (eLc mi m tt el (own.map (·.2))))) :=
  PSi (ps_setLc hc hN hy hyl hsw (pi_any hi) ok hg hx he hs) fun D' σ H ⟨B, ι, e, S, re, p⟩ => lc_any ht hsl σ H _ (.of re (po_bindS re p fun ι1 v1 H1 d1 S1 f1 r1 rd1 p1 => p1 ι1 _ H1 Fr.refl (r1.set rd1)))
theorem x_nil : PTs X [] (tT X.K cA W tYs) := ⟨fun pins s σ H Q I ⟨B, ι, e, S, re, p⟩ => pts_nil.run pins s σ H Q I (p ι H Fr.refl re.rs)⟩
theorem x_one {xa : MB} (h : PT X a (tT X.K cA W xa)) : PTs X [a] (tT X.K cA W xa) := pts_one h
end
end
end DL

/-! The data layer: functions and calls. -/
namespace DL
open PySem PySem.Spec PyProof.Rows L2

/-! ### data that hold no cell -/
mutual
def cl : D → Bool
  | .tup ds => cls ds
  | .lst ds => cls ds
  | .dct _ ds => cls ds
  | .obj _ => false
  | .scr ds => cls ds
  | _ => true
def cls : List D → Bool
  | [] => true
  | d :: ds => cl d && cls ds
end
/-- data without a cell, or a cell -/
def flatO : D → Bool
  | .obj _ => true
  | d => cl d
def kids : Cell → List Nat
  | .ins _ fs => fs.filterMap fun p => match p.2 with | .obj n => some n | _ => none
  | _ => []
def okC : Cell → Bool
  | .lst ds => cls ds
  | .dct _ ds => cls ds
  | .ins _ fs => fs.all fun p => flatO p.2
/-- the cells that are reached -/
def clo (S : Sto) : Nat → List Nat → List Nat → List Nat
  | 0, _, dn => dn
  | _ + 1, [], dn => dn
  | f + 1, n :: t, dn => if n ∈ dn then clo S f t dn else match S[n]? with
    | some c => clo S f (t ++ kids c) (dn ++ [n])
    | none => clo S f t dn
def tops (ds : List D) : List Nat := ds.filterMap fun d => match d with | .obj n => some n | _ => none
/-- names of cells, in and out -/
def mapO (f : Nat → Nat) : D → D
  | .obj n => .obj (f n)
  | d => d
def mapC (f : Nat → Nat) : Cell → Cell
  | .ins C fs => .ins C (fs.map fun p => (p.1, mapO f p.2))
  | c => c
def inj1 (js : List Nat) : D → Bool
  | .obj n => decide (n ∈ js)
  | _ => true
def inC (js : List Nat) : Cell → Bool
  | .ins _ fs => fs.all fun p => inj1 js p.2
  | _ => true
/-- how a call's cells come back: the first ones in their places, the others behind -/
def outN (js : List Nat) (L : Nat) (n : Nat) : Nat := if n < js.length then js.getD n 0 else L + (n - js.length)
def back (js : List Nat) (S S2 : Sto) : Sto := (S.mapIdx fun k c => if k ∈ js then mapC (outN js S.length) (S2.getD (js.idxOf k) c) else c) ++ (S2.drop js.length).map (mapC (outN js S.length))
def goodC (js : List Nat) (S : Sto) (j : Nat) : Bool := match S[j]? with | some c => okC c && inC js c | none => false
def callJ (m : MF) (ds : List D) (S : Sto) (js : List Nat) : RE :=
  if (decide js.Nodup && ds.all flatO && ds.all (inj1 js) && js.all (goodC js S)) = true then
    match m (ds.map (mapO js.idxOf)) (js.map fun j => mapC js.idxOf (S.getD j (.lst []))) with
    | .ok d S2 => if (flatO d && S2.all okC) = true then .ok (mapO (outN js S.length) d) (back js S S2) else .bad
    | .exc c S2 => if S2.all okC = true then .exc c (back js S S2) else .bad
    | .bad => .bad
  else .bad
def callS (m : MF) (ds : List D) (S : Sto) : RE := callJ m ds S (clo S 100 (tops ds) [])
def eCall (m : MF) (am : MA) : ME := fun e S => (am e S).bind fun ds S1 => callS m ds S1

/-- a function's body -/
def fnK (N : Nat) (body : MS) : MF := fun ds S => match body (ds.map some ++ List.replicate (N - ds.length) none) S with
  | .nx _ S' => .ok .non S'
  | .ret d S' => .ok d S'
  | .exc c _ S' => .exc c S'
  | _ => .bad
mutual
def low (k : Nat) : D → Bool
  | .tup ds => lows k ds
  | .lst ds => lows k ds
  | .dct _ ds => lows k ds
  | .obj n => decide (n < k)
  | .scr ds => lows k ds
  | _ => true
def lows (k : Nat) : List D → Bool
  | [] => true
  | d :: ds => low k d && lows k ds
end
def lowC (k : Nat) : Cell → Bool
  | .lst ds => lows k ds
  | .dct _ ds => lows k ds
  | .ins _ fs => fs.all fun p => low k p.2
/-- what is handed back stands still -/
def still (k : Nat) (S : Sto) : D → D
  | .obj n => if k ≤ n then match S[n]? with | some (.lst ds) => .lst ds | some (.dct ks ds) => .dct ks ds | _ => .obj n else .obj n
  | d => d
/-- a function of whose new cells nothing is left -/
def fnD (N : Nat) (body : MS) : MF := fun ds S => match fnK N body ds S with
  | .ok d S' => if low S.length (still S.length S' d) = true ∧ (S'.take S.length).all (lowC S.length) = true then .ok (still S.length S' d) (S'.take S.length) else .bad
  | .exc c S' => if (S'.take S.length).all (lowC S.length) = true then .exc c (S'.take S.length) else .bad
  | .bad => .bad

section
variable {X : Cx} {K : PySem.W.Frag} {cA : Str → Addr} {W : WX} {B B' : Addr → Prop} {ι ι' : List Addr} {S : Sto} {H H' : Hp} {σ : L2.St} {e : En}
/-- the promise -/
def PoF (K : PySem.W.Frag) (cA : Str → Addr) (B : Addr → Prop) (r : RE) (ι : List Addr) (H : Hp) (Q : VK) (E : XK) : Prop :=
  match r with
  | .ok d S => ∀ ι' v H', Fr ι ι' H H' → RS K cA B ι' S H' → RD K B ι' H' d v → Q v H'
  | .exc c S => ∀ ι' H', Fr ι ι' H H' → RS K cA B ι' S H' → E (.ref (cA c)) none H'
  | .bad => False
def spM (K : PySem.W.Frag) (cA : Str → Addr) (n : Nat) (m : MF) : Sp := fun vs H Q E => ∃ B ι ds S, ds.length = n ∧ RDs K B ι H ds vs ∧ RS K cA B ι S H ∧ PoF K cA B (m ds S) ι H Q E
theorem RDs.getR : ∀ {ds : List D} {vs : List V}, RDs K B ι H ds vs → ∀ (n : Nat) (i : Nat) (d : D), (ds.map some ++ List.replicate n none)[i]? = some (some d) → ∃ v, (vs.map some ++ List.replicate n none)[i]? = some (some v) ∧ RD K B ι H d v := fun {ds vs} r n i d h => by
  by_cases hi : i < ds.length
  · rw [List.getElem?_append_left (by rw [List.length_map]; exact hi), List.getElem?_map] at h
    cases q : ds[i]? with
    | none => rw [q] at h; cases h
    | some d' =>
      rw [q] at h; cases h
      obtain ⟨v, h1, h2⟩ := r.get q
      exact ⟨v, by rw [List.getElem?_append_left (by rw [List.length_map, ← r.len]; exact hi), List.getElem?_map, h1]; rfl, h2⟩
  · rw [List.getElem?_append_right (by rw [List.length_map]; omega)] at h
    obtain ⟨_, h⟩ := List.getElem?_eq_some_iff.mp h
    simp at h
theorem rel_start {N : List Str} {ds : List D} {vs : List V} (r : RDs K B ι H ds vs) (rs : RS K cA B ι S H) : Rel K cA B ι (ds.map some ++ List.replicate (N.length - ds.length) none) S (L2.start N vs) H :=
  ⟨rs, by unfold L2.start; rw [List.length_append, List.length_append, List.length_map, List.length_map, List.length_replicate, List.length_replicate, r.len], fun i d h => by
    unfold L2.start
    rw [← r.len]
    exact r.getR _ i d h⟩
theorem body_ok {N : List Str} {body : MS} {ds : List D} {vs : List V} {Q : VK} {E : XK} (r : RDs K B ι H ds vs) (rs : RS K cA B ι S H) (h : PoF K cA B (fnK N.length body ds S) ι H Q E) :
    tS K cA (fun c d _ H' => E c d H') body { nx := fun _ H' => Q .non H', rt := Q } (L2.start N vs) H := .of (rel_start r rs) (by
  unfold fnK at h
  cases q : body (ds.map some ++ List.replicate (N.length - ds.length) none) S with
  | bad => rw [q] at h; exact h
  | brk _ _ => rw [q] at h; exact h.elim
  | cont _ _ => rw [q] at h; exact h.elim
  | nx e' S' => rw [q] at h; exact fun ι' σ' H' f r => h ι' _ H' f r.rs RD.mk_non
  | ret d S' => rw [q] at h; exact h
  | exc c e' S' => rw [q] at h; exact fun ι' σ' H' f r => h ι' H' f r.rs)

/-! ### less is left -/
mutual
theorem RD.cut {k : Nat} : ∀ (d : D) (v : V), low k d = true → RD K B ι H d v → RD K B (ι.take k) H d v
  | .non, v, _, h => by rw [RD] at h ⊢; exact h
  | .bl b, v, _, h => by rw [RD] at h ⊢; exact h
  | .int i, v, _, h => by rw [RD] at h ⊢; exact h
  | .str x, v, _, h => by rw [RD] at h ⊢; exact h
  | .tup ds, v, l, h => by
    rw [low] at l
    rw [RD] at h ⊢
    obtain ⟨a, xs, e, h1, h2⟩ := h
    refine ⟨a, xs, e, ?_, RDs.cut ds xs l h2⟩
    rcases h1 with ⟨h1, h3⟩ | h1
    · exact .inl ⟨fun m => h1 (List.mem_of_mem_take m), h3⟩
    · exact .inr h1
  | .lst ds, v, l, h => by
    rw [low] at l
    rw [RD] at h ⊢
    obtain ⟨a, xs, e, ⟨h1, h3⟩, h2⟩ := h
    exact ⟨a, xs, e, ⟨fun m => h1 (List.mem_of_mem_take m), h3⟩, RDs.cut ds xs l h2⟩
  | .dct ks ds, v, l, h => by
    rw [low] at l
    rw [RD] at h ⊢
    obtain ⟨a, xs, e, h1, h2, h3, h4, h5⟩ := h
    exact ⟨a, xs, e, fun m => h1 (List.mem_of_mem_take m), h2, h3, h4, RDs.cut ds xs l h5⟩
  | .obj n, v, l, h => by
    rw [low, decide_eq_true_eq] at l
    rw [RD] at h ⊢
    obtain ⟨a, e, h1⟩ := h
    exact ⟨a, e, by rw [List.getElem?_take_of_lt l]; exact h1⟩
  | .scr ds, v, l, h => by
    rw [low] at l
    rw [RD] at h ⊢
    obtain ⟨a, xs, e, h1, h2⟩ := h
    exact ⟨a, xs, e, h1.imp (fun ⟨h1, h3⟩ => ⟨fun m => h1 (List.mem_of_mem_take m), h3⟩) _root_.id, RDs.cut ds xs l h2⟩
theorem RDs.cut {k : Nat} : ∀ (ds : List D) (vs : List V), lows k ds = true → RDs K B ι H ds vs → RDs K B (ι.take k) H ds vs
  | [], vs, _, h => by rw [RDs] at h ⊢; exact h
  | d :: ds, vs, l, h => by
    rw [lows, Bool.and_eq_true] at l
    rw [RDs] at h ⊢
    obtain ⟨v, r, e, h1, h2⟩ := h
    exact ⟨v, r, e, RD.cut d v l.1 h1, RDs.cut ds r l.2 h2⟩
end
theorem lows_map {k : Nat} : ∀ {fs : List (Str × D)}, (fs.all fun p => low k p.2) = true → lows k (fs.map (·.2)) = true
  | [], _ => rfl
  | f :: fs, h => by
    rw [List.all_cons, Bool.and_eq_true] at h
    rw [List.map_cons, lows, h.1, lows_map h.2]; rfl
theorem RS.cut {k : Nat} (r : RS K cA B ι S H) (h : (S.take k).all (lowC k) = true) : RS K cA B (ι.take k) (S.take k) H := by
  refine ⟨by rw [List.length_take, List.length_take, r.len], r.nd.sublist (List.take_sublist _ _), fun a b => ?_, fun i c e => ?_⟩
  · obtain ⟨h1, o, h2⟩ := r.nB a b
    exact ⟨fun m => h1 (List.mem_of_mem_take m), o, h2⟩
  · have hl : lowC k c = true := List.all_eq_true.mp h c (List.mem_of_getElem? e)
    have hi : i < k := by
      have := (List.getElem?_eq_some_iff.mp e).1
      rw [List.length_take] at this; omega
    rw [List.getElem?_take_of_lt hi] at e
    obtain ⟨a, h1, h2⟩ := r.at_ i c e
    refine ⟨a, by rw [List.getElem?_take_of_lt hi]; exact h1, ?_⟩
    cases c with
    | lst ds => obtain ⟨xs, h3, h4⟩ := h2; exact ⟨xs, h3, RDs.cut _ _ hl h4⟩
    | dct ks ds => obtain ⟨xs, h3, h4, h5⟩ := h2; exact ⟨xs, h3, h4, RDs.cut _ _ hl h5⟩
    | ins C fs => obtain ⟨dx, xs, h3, h4, h5⟩ := h2; exact ⟨dx, xs, h3, h4, RDs.cut _ _ (lows_map hl) h5⟩
theorem Fr.cut (f : Fr ι ι' H H') : Fr ι (ι'.take ι.length) H H' := by
  obtain ⟨⟨l, rfl, p⟩, s⟩ := f
  rw [List.take_left]
  exact ⟨⟨[], by simp, by simp⟩, s⟩
theorem RD.still {k : Nat} {d : D} {v : V} (rs : RS K cA B ι S H) (h : low k (still k S d) = true) (r : RD K B ι H d v) : RD K B (ι.take k) H (still k S d) v := by
  cases d with
  | obj n =>
    unfold DL.still at h ⊢
    simp only at h ⊢
    by_cases hn : k ≤ n
    · rw [if_pos hn] at h ⊢
      have out : ∀ {a}, ι[n]? = some a → a ∉ ι.take k := fun {a} h1 m => by
        obtain ⟨i, hi, e⟩ := List.getElem_of_mem m
        rw [List.getElem_take] at e
        rw [List.length_take] at hi
        obtain ⟨hn', e'⟩ := List.getElem?_eq_some_iff.mp h1
        exact (List.pairwise_iff_getElem.mp rs.nd i n (by omega) hn' (by omega)) (e.trans e'.symm)
      have nb : ∀ {a}, ι[n]? = some a → ¬ B a := fun {a} h1 z => (rs.nB a z).1 (List.mem_of_getElem? h1)
      obtain ⟨a, rfl, h1⟩ := r.obj
      cases q : S[n]? with
      | none => rw [q] at h; simp only at h; rw [low, decide_eq_true_eq] at h; omega
      | some c =>
        rw [q] at h
        obtain ⟨a', h2, h3⟩ := rs.at_ n c q
        rw [h1] at h2; cases h2
        cases c with
        | lst ds =>
          obtain ⟨xs, h4, h5⟩ := h3
          simp only at h ⊢
          rw [low] at h
          exact .mk_lst ⟨out h1, nb h1, .inl h4⟩ (RDs.cut _ _ h h5)
        | dct ks ds =>
          obtain ⟨xs, h4, h5, h6⟩ := h3
          simp only at h ⊢
          rw [low] at h
          rw [RD]
          exact ⟨a, xs, rfl, out h1, nb h1, h4, h5, RDs.cut _ _ h h6⟩
        | ins C fs => simp only at h; rw [low, decide_eq_true_eq] at h; omega
    · rw [if_neg hn] at h ⊢
      exact RD.cut _ _ h r
  | _ => exact RD.cut _ _ h r
theorem PoF.drop {N : Nat} {body : MS} {ds : List D} {Q : VK} {E : XK} (hl : S.length = ι.length) (h : PoF K cA B (fnD N body ds S) ι H Q E) : PoF K cA B (fnK N body ds S) ι H Q E := by
  unfold fnD at h
  cases q : fnK N body ds S with
  | bad => rw [q] at h; exact h
  | exc c S' =>
    rw [q] at h
    simp only at h
    split at h
    · rename_i hc
      rw [hl] at hc h
      exact fun ι' H' f r => h (ι'.take ι.length) H' f.cut (r.cut hc)
    · exact h.elim
  | ok d S' =>
    rw [q] at h
    simp only at h
    split at h
    · rename_i hc
      rw [hl] at hc h
      exact fun ι' v H' f r rd => h (ι'.take ι.length) v H' f.cut (r.cut hc.2) (rd.still r hc.1)
    · exact h.elim

/-! ### a call -/
mutual
theorem RD.cl (k : ∀ a, a ∉ ι → ¬ B a → a ∉ ι' ∧ ¬ B' a) : ∀ (d : D) (v : V), DL.cl d = true → RD K B ι H d v → RD K B' ι' H d v
  | .non, v, _, h => by rw [RD] at h ⊢; exact h
  | .bl b, v, _, h => by rw [RD] at h ⊢; exact h
  | .int i, v, _, h => by rw [RD] at h ⊢; exact h
  | .str x, v, _, h => by rw [RD] at h ⊢; exact h
  | .tup ds, v, l, h => by
    rw [DL.cl] at l
    rw [RD] at h ⊢
    obtain ⟨a, xs, e, h1, h2⟩ := h
    refine ⟨a, xs, e, ?_, RDs.cl k ds xs l h2⟩
    rcases h1 with ⟨h1, h3, h4⟩ | h1
    · exact .inl ⟨(k a h1 h3).1, (k a h1 h3).2, h4⟩
    · exact .inr h1
  | .lst ds, v, l, h => by
    rw [DL.cl] at l
    rw [RD] at h ⊢
    obtain ⟨a, xs, e, ⟨h1, h3, h4⟩, h2⟩ := h
    exact ⟨a, xs, e, ⟨(k a h1 h3).1, (k a h1 h3).2, h4⟩, RDs.cl k ds xs l h2⟩
  | .dct ks ds, v, l, h => by
    rw [DL.cl] at l
    rw [RD] at h ⊢
    obtain ⟨a, xs, e, h1, h2, h3, h4, h5⟩ := h
    exact ⟨a, xs, e, (k a h1 h2).1, (k a h1 h2).2, h3, h4, RDs.cl k ds xs l h5⟩
  | .obj n, v, l, h => by rw [DL.cl] at l; cases l
  | .scr ds, v, l, h => by
    rw [DL.cl] at l
    rw [RD] at h ⊢
    obtain ⟨a, xs, e, h1, h2⟩ := h
    exact ⟨a, xs, e, h1.imp (fun ⟨h1, h3, h4⟩ => ⟨(k a h1 h3).1, (k a h1 h3).2, h4⟩) _root_.id, RDs.cl k ds xs l h2⟩
theorem RDs.cl (k : ∀ a, a ∉ ι → ¬ B a → a ∉ ι' ∧ ¬ B' a) : ∀ (ds : List D) (vs : List V), DL.cls ds = true → RDs K B ι H ds vs → RDs K B' ι' H ds vs
  | [], vs, _, h => by rw [RDs] at h ⊢; exact h
  | d :: ds, vs, l, h => by
    rw [DL.cls, Bool.and_eq_true] at l
    rw [RDs] at h ⊢
    obtain ⟨v, r, e, h1, h2⟩ := h
    exact ⟨v, r, e, RD.cl k d v l.1 h1, RDs.cl k ds r l.2 h2⟩
end
/-- a value with its cell renamed -/
theorem RD.mapO {f : Nat → Nat} {d : D} {v : V} (k : ∀ a, a ∉ ι → ¬ B a → a ∉ ι' ∧ ¬ B' a) (hf : flatO d = true) (ho : ∀ n a, d = .obj n → ι[n]? = some a → ι'[f n]? = some a) (h : RD K B ι H d v) : RD K B' ι' H (DL.mapO f d) v := by
  cases d with
  | obj n =>
    obtain ⟨a, rfl, h1⟩ := h.obj
    exact .mk_obj (ho n a rfl h1)
  | _ => exact RD.cl k _ _ hf h
theorem RDs.mapO {f : Nat → Nat} (k : ∀ a, a ∉ ι → ¬ B a → a ∉ ι' ∧ ¬ B' a) : ∀ {ds : List D} {vs : List V}, ds.all flatO = true → (∀ n a, D.obj n ∈ ds → ι[n]? = some a → ι'[f n]? = some a) → RDs K B ι H ds vs → RDs K B' ι' H (ds.map (DL.mapO f)) vs
  | [], vs, _, _, h => by rw [h.nil_inv]; exact .nil
  | d :: ds, vs, hf, ho, h => by
    obtain ⟨v, t, rfl, h1, h2⟩ := h.cons_inv
    rw [List.all_cons, Bool.and_eq_true] at hf
    exact .cons (h1.mapO k hf.1 fun n a e => ho n a (by rw [e]; exact List.mem_cons_self)) (RDs.mapO k hf.2 (fun n a e => ho n a (List.mem_cons_of_mem _ e)) h2)
theorem RO.mapC {f : Nat → Nat} {a : Addr} {c : Cell} (k : ∀ a, a ∉ ι → ¬ B a → a ∉ ι' ∧ ¬ B' a) (hf : okC c = true) (ho : ∀ C fs n a, c = .ins C fs → D.obj n ∈ fs.map (·.2) → ι[n]? = some a → ι'[f n]? = some a) (h : RO K cA B ι H a c) : RO K cA B' ι' H a (DL.mapC f c) := by
  cases c with
  | lst ds => obtain ⟨xs, h1, h2⟩ := h; exact ⟨xs, h1, RDs.cl k _ _ hf h2⟩
  | dct ks ds => obtain ⟨xs, h1, h2, h3⟩ := h; exact ⟨xs, h1, h2, RDs.cl k _ _ hf h3⟩
  | ins C fs =>
    obtain ⟨dx, xs, h1, h2, h3⟩ := h
    have e1 : (fs.map fun p => (p.1, DL.mapO f p.2)).map (·.1) = fs.map (·.1) := by rw [List.map_map]; rfl
    have e2 : (fs.map fun p => (p.1, DL.mapO f p.2)).map (·.2) = (fs.map (·.2)).map (DL.mapO f) := by rw [List.map_map, List.map_map]; rfl
    refine ⟨dx, xs, by rw [e1]; exact h1, by rw [List.length_map]; exact h2, ?_⟩
    rw [e2]
    refine RDs.mapO k ?_ (fun n a m => ho C fs n a rfl m) h3
    rw [List.all_map]
    exact hf
theorem idx_get {js : List Nat} {n : Nat} (h : n ∈ js) : js[js.idxOf n]? = some n := by
  have hl := List.idxOf_lt_length_of_mem h
  rw [List.getElem?_eq_getElem hl, List.getElem_idxOf]
theorem call_sub {m : MF} {ds : List D} {vs : List V} {Q : VK} {js : List Nat} (rs : RS K cA B ι S H) (r : RDs K B ι H ds vs) (h : PoE K cA W B (callJ m ds S js) ι σ H Q) : spM K cA ds.length m vs H Q (WE W σ) := by
  unfold callJ at h
  split at h
  case isFalse => exact h.elim
  rename_i hc
  simp only [Bool.and_eq_true, decide_eq_true_eq, List.all_eq_true] at hc
  obtain ⟨⟨⟨hnd, hfl⟩, hin⟩, hgood⟩ := hc
  have hj : ∀ j ∈ js, ∃ c a, S[j]? = some c ∧ okC c = true ∧ inC js c = true ∧ ι[j]? = some a ∧ RO K cA B ι H a c := fun j m => by
    have g := hgood j m
    unfold goodC at g
    split at g
    · rename_i c q
      rw [Bool.and_eq_true] at g
      obtain ⟨a, h1, h2⟩ := rs.at_ j c q
      exact ⟨c, a, q, g.1, g.2, h1, h2⟩
    · cases g
  let ι2 : List Addr := js.map fun j => ι.getD j 0
  let B2 : Addr → Prop := fun a => B a ∨ (a ∈ ι ∧ a ∉ ι2)
  have sub2 : ∀ a ∈ ι2, a ∈ ι := fun a m => by
    obtain ⟨j, hm, e⟩ := List.mem_map.mp m
    obtain ⟨c, a', _, _, _, h1, _⟩ := hj j hm
    rw [List.getD_eq_getElem?_getD, h1] at e
    simp at e; subst e
    exact List.mem_of_getElem? h1
  have get2 : ∀ {i j : Nat}, js[i]? = some j → ι2[i]? = ι[j]? := fun {i j} e => by
    show (js.map fun j => ι.getD j 0)[i]? = _
    rw [List.getElem?_map, e]
    obtain ⟨c, a', _, _, _, h1, _⟩ := hj j (List.mem_of_getElem? e)
    simp [List.getD_eq_getElem?_getD, h1]
  have kin : ∀ a, a ∉ ι → ¬ B a → a ∉ ι2 ∧ ¬ B2 a := fun a h1 h2 => ⟨fun m => h1 (sub2 a m), fun z => z.elim h2 fun z => h1 z.1⟩
  have oin : ∀ n a, n ∈ js → ι[n]? = some a → ι2[js.idxOf n]? = some a := fun n a m e => by rw [get2 (idx_get m)]; exact e
  have rs2 : RS K cA B2 ι2 (js.map fun j => DL.mapC js.idxOf (S.getD j (.lst []))) H := by
    refine ⟨by simp [ι2], ?_, fun a z => ?_, fun i c e => ?_⟩
    · show List.Pairwise _ _
      rw [List.pairwise_map]
      refine hnd.imp_of_mem fun {x y} hx hy hne => ?_
      obtain ⟨_, a1, _, _, _, h1, _⟩ := hj x hx
      obtain ⟨_, a2, _, _, _, h2, _⟩ := hj y hy
      simp only [List.getD_eq_getElem?_getD, h1, h2, Option.getD_some]
      intro e
      subst e
      obtain ⟨l1, e1⟩ := List.getElem?_eq_some_iff.mp h1
      obtain ⟨l2, e2⟩ := List.getElem?_eq_some_iff.mp h2
      rcases Nat.lt_or_gt_of_ne hne with z | z
      · exact (List.pairwise_iff_getElem.mp rs.nd x y l1 l2 z) (e1.trans e2.symm)
      · exact (List.pairwise_iff_getElem.mp rs.nd y x l2 l1 z) (e2.trans e1.symm)
    · rcases z with z | z
      · obtain ⟨h1, o, h2⟩ := rs.nB a z
        exact ⟨fun m => h1 (sub2 a m), o, h2⟩
      · obtain ⟨o, h2⟩ := rs.there z.1
        exact ⟨z.2, o, h2⟩
    · rw [List.getElem?_map] at e
      cases q : js[i]? with
      | none => rw [q] at e; cases e
      | some j =>
        rw [q] at e
        obtain ⟨c0, a, h0, hok, hic, h1, h2⟩ := hj j (List.mem_of_getElem? q)
        simp only [Option.map_some, List.getD_eq_getElem?_getD, h0, Option.getD_some, Option.some.injEq] at e
        subst e
        refine ⟨a, by rw [get2 q]; exact h1, RO.mapC kin hok (fun C fs n b ec mm eb => ?_) h2⟩
        subst ec
        obtain ⟨p, hp, ep⟩ := List.mem_map.mp mm
        have := List.all_eq_true.mp hic p hp
        rw [ep] at this
        exact oin n b (of_decide_eq_true this) eb
  have rd2 : RDs K B2 ι2 H (ds.map (DL.mapO js.idxOf)) vs := RDs.mapO kin (List.all_eq_true.mpr hfl) (fun n a m e => oin n a (of_decide_eq_true (hin _ m)) e) r
  -- behind the call
  have fin : ∀ {ι' H' S2}, Fr ι2 ι' H H' → RS K cA B2 ι' S2 H' → S2.all okC = true → ∃ ι1, Fr ι ι1 H H' ∧ RS K cA B ι1 (back js S S2) H' ∧ ∀ d v, flatO d = true → RD K B2 ι' H' d v → RD K B ι1 H' (DL.mapO (outN js S.length) d) v := fun {ι' H' S2} f rs' hok => by
    obtain ⟨⟨l, rfl, hl⟩, hst⟩ := f
    have l2 : ι2.length = js.length := by simp [ι2]
    have hout : ∀ a, a ∉ ι2 ++ l → ¬ B2 a → a ∉ ι ++ l ∧ ¬ B a := fun a h1 h2 => by
      refine ⟨fun m => ?_, fun z => h2 (.inl z)⟩
      rcases List.mem_append.mp m with m | m
      · exact h2 (.inr ⟨m, fun z => h1 (List.mem_append_left _ z)⟩)
      · exact h1 (List.mem_append_right _ m)
    have oout : ∀ n a, (ι2 ++ l)[n]? = some a → (ι ++ l)[outN js S.length n]? = some a := fun n a e => by
      unfold outN
      by_cases hn : n < js.length
      · rw [if_pos hn]
        rw [List.getElem?_append_left (by rw [l2]; exact hn)] at e
        have q : js[n]? = some js[n] := List.getElem?_eq_getElem hn
        rw [get2 q] at e
        rw [List.getD_eq_getElem?_getD, q, Option.getD_some, List.getElem?_append_left (List.getElem?_eq_some_iff.mp e).1]
        exact e
      · rw [if_neg hn]
        rw [List.getElem?_append_right (by rw [l2]; omega), l2] at e
        rw [List.getElem?_append_right (by rw [rs.len]; omega), rs.len]
        rw [show S.length + (n - js.length) - S.length = n - js.length by omega]
        exact e
    have hl' : ∀ a ∈ l, a ∉ ι ∧ H a = none := fun a m => by
      refine ⟨fun z => ?_, (hl a m).2⟩
      obtain ⟨o, q⟩ := rs.there z
      rw [(hl a m).2] at q; cases q
    have fr : Fr ι (ι ++ l) H H' := ⟨⟨l, rfl, hl'⟩, fun a o e n => hst a o e fun m => n (sub2 a m)⟩
    refine ⟨ι ++ l, fr, ⟨?_, ?_, fun a z => ?_, fun i c e => ?_⟩, fun d v hf rd => rd.mapO hout hf fun n a _ e => oout n a e⟩
    · have := rs'.len
      rw [List.length_append, l2] at this
      unfold back
      rw [List.length_append, List.length_append, List.length_mapIdx, List.length_map, List.length_drop, rs.len]
      omega
    · rw [List.nodup_append]
      have := rs'.nd
      rw [List.nodup_append] at this
      exact ⟨rs.nd, this.2.1, fun a ha b hb e => (hl' b hb).1 (e ▸ ha)⟩
    · obtain ⟨h1, o, h2⟩ := rs.nB a z
      refine ⟨fun m => ?_, o, hst a o h2 fun m => h1 (sub2 a m)⟩
      rcases List.mem_append.mp m with m | m
      · exact h1 m
      · rw [(hl a m).2] at h2; cases h2
    · unfold back at e
      by_cases hi : i < S.length
      · rw [List.getElem?_append_left (by rw [List.length_mapIdx]; exact hi), List.getElem?_mapIdx, List.getElem?_eq_getElem hi, Option.map_some] at e
        by_cases hm : i ∈ js
        · rw [if_pos hm] at e
          have hix := List.idxOf_lt_length_of_mem hm
          have hlen : js.idxOf i < S2.length := by
            have := rs'.len
            rw [List.length_append, l2] at this
            omega
          rw [List.getD_eq_getElem?_getD, List.getElem?_eq_getElem hlen, Option.getD_some] at e
          cases e
          obtain ⟨a, h1, h2⟩ := rs'.at_ (js.idxOf i) _ (List.getElem?_eq_getElem hlen)
          have ok2 : okC S2[js.idxOf i] = true := List.all_eq_true.mp hok _ (List.getElem_mem hlen)
          refine ⟨a, ?_, RO.mapC hout ok2 (fun C fs n b _ _ eb => oout n b eb) h2⟩
          rw [List.getElem?_append_left (by rw [l2]; exact hix), get2 (idx_get hm)] at h1
          rw [List.getElem?_append_left (List.getElem?_eq_some_iff.mp h1).1]
          exact h1
        · rw [if_neg hm] at e
          cases e
          obtain ⟨a, h1, h2⟩ := rs.at_ i _ (List.getElem?_eq_getElem hi)
          obtain ⟨o, ho⟩ := h2.has
          refine ⟨a, fr.get h1, h2.fr fr ?_⟩
          rw [ho]
          refine hst a o ho fun m => ?_
          obtain ⟨j, hm', e⟩ := List.mem_map.mp m
          obtain ⟨_, a2, _, _, _, h3, _⟩ := hj j hm'
          rw [List.getD_eq_getElem?_getD, h3, Option.getD_some] at e
          subst e
          obtain ⟨l1, e1⟩ := List.getElem?_eq_some_iff.mp h1
          obtain ⟨l2, e2⟩ := List.getElem?_eq_some_iff.mp h3
          have hne : i ≠ j := fun z => hm (z ▸ hm')
          rcases Nat.lt_or_gt_of_ne hne with z | z
          · exact (List.pairwise_iff_getElem.mp rs.nd i j l1 l2 z) (e1.trans e2.symm)
          · exact (List.pairwise_iff_getElem.mp rs.nd j i l2 l1 z) (e2.trans e1.symm)
      · rw [List.getElem?_append_right (by rw [List.length_mapIdx]; omega), List.length_mapIdx, List.getElem?_map, List.getElem?_drop] at e
        cases q : S2[js.length + (i - S.length)]? with
        | none => rw [q] at e; cases e
        | some c0 =>
          rw [q] at e; cases e
          obtain ⟨a, h1, h2⟩ := rs'.at_ _ _ q
          refine ⟨a, ?_, RO.mapC hout (List.all_eq_true.mp hok _ (List.mem_of_getElem? q)) (fun C fs n b _ _ eb => oout n b eb) h2⟩
          rw [List.getElem?_append_right (by rw [l2]; omega), l2] at h1
          rw [List.getElem?_append_right (by rw [rs.len]; omega), rs.len]
          rw [show js.length + (i - S.length) - js.length = i - S.length by omega] at h1
          exact h1
  refine ⟨B2, ι2, _, _, List.length_map .., rd2, rs2, ?_⟩
  cases q : m (ds.map (DL.mapO js.idxOf)) (js.map fun j => DL.mapC js.idxOf (S.getD j (.lst []))) with
  | bad => rw [q] at h; exact h.elim
  | exc c S2 =>
    rw [q] at h
    simp only at h
    intro ι' H' f rs'
    split at h
    · rename_i hok
      obtain ⟨ι1, f1, r1, _⟩ := fin f rs' hok
      exact h ι1 H' f1 r1
    · exact h.elim
  | ok d S2 =>
    rw [q] at h
    simp only at h
    intro ι' v H' f rs' rd
    split at h
    · rename_i hok
      rw [Bool.and_eq_true] at hok
      obtain ⟨ι1, f1, r1, k1⟩ := fin f rs' hok.2
      exact h ι1 v H' f1 r1 (k1 d v hok.1 rd)
    · exact h.elim
end
end DL

/-! The data layer: more rules. -/
namespace DL
open PySem PySem.Spec PyProof.Rows L2
section
variable {X : Cx} {K : PySem.W.Frag} {cA : Str → Addr} {W : WX} {B B' : Addr → Prop} {ι ι' : List Addr} {S : Sto} {H H' : Hp} {σ : L2.St} {e : En}
variable {a b c : Expr} {es : List Expr} {ma mb mc : ME} {xs : MA} {pos : Pos} {st : Stmt} {sts : List Stmt} {sa sb : MS} {g g' : Sto → D → D → Option D}
/-! ### a < b < c -/
def e3 (g g' : Sto → D → D → Option D) (a b c : ME) : ME := fun e S => (a e S).bind fun x S1 => (b e S1).bind fun y S2 => match g S2 x y with
  | some (.bl true) => (c e S2).bind fun z S3 => opt (g' S3 y z) S3
  | some (.bl false) => .ok (.bl false) S2
  | _ => .bad
theorem useC {f f' : Value → Value → Sem Value} {r r' : R2} (h2 : ∀ (cA : Str → Addr) (B : Addr → Prop) (ι : List Addr) (S : Sto) (H : Hp) (x y : V) (a b d : D) (Q : VK), RS X.K cA B ι S H → RD X.K B ι H a x → RD X.K B ι H b y → g S a b = some d →
    (∀ v H', Same H H' → RD X.K B ι H' d v → Q v H') → r x y H Q) (h2' : ∀ (cA : Str → Addr) (B : Addr → Prop) (ι : List Addr) (S : Sto) (H : Hp) (x y : V) (a b d : D) (Q : VK), RS X.K cA B ι S H → RD X.K B ι H a x → RD X.K B ι H b y → g' S a b = some d →
    (∀ v H', Same H H' → RD X.K B ι H' d v → Q v H') → r' x y H Q) : ∀ σ H Q, tE X.K cA W (e3 g g' ma mb mc) σ H Q → tChain r r' (tE X.K cA W ma) (tE X.K cA W mb) (tE X.K cA W mc) σ H Q := fun σ H Q ⟨B, ι, e, S, re, p⟩ =>
    .of re (po_bind re p fun ι1 v1 H1 d1 S1 f1 r1 rd1 p1 => .of r1 (po_bind r1 p1 fun ι2 v2 H2 d2 S2 f2 r2 rd2 p2 => by
      split at p2
      · rename_i q
        refine h2 cA B ι2 S2 H2 v1 v2 d1 d2 _ _ r2.rs (RD.fr f2 _ _ rd1) rd2 q fun v H3 sm rd => ⟨true, rd.bl, ?_⟩
        rw [if_pos rfl]
        have r3 : Rel X.K cA B ι2 e S2 σ H3 := r2.fr (Fr.same sm) (r2.rs.same sm)
        refine .of r3 (po_bind (Q := Q) r3 (f := fun z S3 => opt (g' S3 d2 z) S3) ?_ fun ι4 v4 H4 d4 S4 f4 r4 rd4 p4 => ?_)
        · revert p2
          cases (mc e S2).bind fun z S3 => opt (g' S3 d2 z) S3 with
          | bad => exact _root_.id
          | ok d2 S2 => exact fun h ι2 v2 H2 f2 r2 d2 => h ι2 v2 H2 ((Fr.same sm).trans f2) r2 d2
          | exc c S2 => exact fun h ι2 H2 f2 r2 => h ι2 H2 ((Fr.same sm).trans f2) r2
        · obtain ⟨d, hd, q'⟩ := po_opt p4 r4.rs
          exact h2' cA B ι4 S4 H4 v2 v4 d2 d4 d _ r4.rs (RD.fr f4 _ _ (RD.fr (Fr.same sm) _ _ rd2)) rd4 hd q'
      · rename_i q
        refine h2 cA B ι2 S2 H2 v1 v2 d1 d2 _ _ r2.rs (RD.fr f2 _ _ rd1) rd2 q fun v H3 sm rd => ⟨false, rd.bl, ?_⟩
        rw [if_neg Bool.false_ne_true]
        exact p2 ι2 _ H3 (Fr.same sm) (r2.rs.same sm) RD.mk_bl
      · exact p2.elim))

theorem q_chain {op op' : CmpOp} (ho : O2 X (compareOp op) g) (ho' : O2 X (compareOp op') g') (ha : PE X a (tE X.K cA W ma)) (hb : PE X b (tE X.K cA W mb)) (hc : PE X c (tE X.K cA W mc)) (hm : lastMarks [op, op'] [b, c] = false := by with_unfolding_all rfl) :
    PE X (.Compare a [op, op'] [b, c] pos) (tE X.K cA W (e3 g g' ma mb mc)) :=
  let ⟨r, h1, h2⟩ := ho.ex; let ⟨r', h1', h2'⟩ := ho'.ex; PEi (pe_chain h1 h1' ha hb hc hm) (useC (f := compareOp op) (f' := compareOp op') h2 h2')
theorem k_chain {op op' : CmpOp} (ho : O2 X (compareOp op) g) (ho' : O2 X (compareOp op') g') (ha : PE X a (tE X.K cA W ma)) (hb : PE X b (tE X.K cA W mb)) (hc : PE X c (tE X.K cA W mc)) (hm : lastMarks [op, op'] [b, c] = false := by with_unfolding_all rfl) :
    PT X (.Compare a [op, op'] [b, c] pos) (tT X.K cA W (tOf (e3 g g' ma mb mc))) :=
  let ⟨r, h1, h2⟩ := ho.ex; let ⟨r', h1', h2'⟩ := ho'.ex; PTi (pt_chain h1 h1' ha hb hc hm) (useT (useC (f := compareOp op) (f' := compareOp op') h2 h2'))

/-! ### a cell changes -/
theorem Fr.at {a : Addr} {o : HO} (h : a ∈ ι) : Fr ι ι H (upd H a o) := ⟨⟨[], by simp, by simp⟩, fun b o' e n => by rw [upd_ne (fun z : b = a => n (by rw [z]; exact h))]; exact e⟩
theorem RS.setL (r : RS K cA B ι S H) {n : Nat} {ds ds' : List D} {a : Addr} {xs' : List V} (h : S[n]? = some (.lst ds)) (ha : ι[n]? = some a) (rd : RDs K B ι H ds' xs') : RS K cA B ι (S.set n (.lst ds')) (upd H a (.lst xs')) := by
  have hm : a ∈ ι := List.mem_of_getElem? ha
  have fr : Fr ι ι H (upd H a (.lst xs')) := Fr.at hm
  refine ⟨by rw [List.length_set]; exact r.len, r.nd, fun b z => ?_, fun i c e => ?_⟩
  · obtain ⟨h1, o, h2⟩ := r.nB b z
    exact ⟨h1, o, fr.st _ _ h2 h1⟩
  · by_cases hi : n = i
    · subst hi
      rw [List.getElem?_set_self (List.getElem?_eq_some_iff.mp h).1] at e
      cases e
      exact ⟨a, ha, xs', upd_same, RDs.fr fr _ _ rd⟩
    · rw [List.getElem?_set_ne hi] at e
      obtain ⟨b, h1, h2⟩ := r.at_ i c e
      refine ⟨b, h1, h2.fr fr (upd_ne fun z => ?_)⟩
      subst z
      obtain ⟨l1, e1⟩ := List.getElem?_eq_some_iff.mp h1
      obtain ⟨l2, e2⟩ := List.getElem?_eq_some_iff.mp ha
      rcases Nat.lt_or_gt_of_ne hi with z | z
      · exact (List.pairwise_iff_getElem.mp r.nd n i l2 l1 z) (e2.trans e1.symm)
      · exact (List.pairwise_iff_getElem.mp r.nd i n l1 l2 z) (e1.trans e2.symm)
def putI (S : Sto) (e : En) : D → D → D → RS'
  | .obj n, .int k, d => match S[n]? with
    | some (.lst ds) => match ixN ds.length k with
      | some j => .nx e (S.set n (.lst (ds.set j d)))
      | none => .bad
    | _ => .bad
  | _, _, _ => .bad
/-- o[i] = v of a list -/
def sSetI (mo mi mv : ME) : MS := fun e S => (mv e S).bindS e fun d S1 => (mo e S1).bindS e fun o S2 => (mi e S2).bindS e fun i S3 => putI S3 e o i d
theorem s_setI {o i v : Expr} {mo mi mv : ME} (h : ∀ {tv to ti : TE}, PE X v tv → PE X o to → PE X i ti → PS X st (tAsg tv (L2.gSub to ti rSetL))) (hv : PE X v (tE X.K cA W mv)) (ho : PE X o (tE X.K cA W mo)) (hi : PE X i (tE X.K cA W mi)) : PS X st (tS X.K cA W (sSetI mo mi mv)) :=
  PSi (h hv ho hi) fun D' σ H ⟨B, ι, e, S, re, p⟩ =>
    .of re (po_bindS re p fun ι1 v1 H1 d1 S1 f1 r1 rd1 p1 => .of r1 (po_bindS r1 p1 fun ι2 v2 H2 d2 S2 f2 r2 rd2 p2 => .of r2 (po_bindS r2 p2 fun ι3 v3 H3 d3 S3 f3 r3 rd3 p3 => by
      unfold putI at p3
      split at p3
      · rename_i n k
        split at p3
        · rename_i ds q
          split at p3
          · rename_i j hj
            obtain ⟨a, h1, us, h2, h3⟩ := r3.rs.at_ n _ q
            obtain ⟨a', rfl, h4⟩ := (RD.fr f3 _ _ rd2).obj
            rw [h1] at h4; cases h4
            refine ⟨a, us, k, j, rfl, rd3.int, h2, by rw [← h3.len]; exact hj, ?_⟩
            have rdd := RD.fr f3 _ _ (RD.fr f2 _ _ rd1)
            have fr : Fr ι3 ι3 H3 (upd H3 a (.lst (us.set j v1))) := Fr.at (List.mem_of_getElem? h1)
            exact p3 ι3 σ _ fr (r3.fr fr (r3.rs.setL q h1 (h3.set j rdd)))
          · exact p3.elim
        · exact p3.elim
      · exact p3.elim)))
def appI (S : Sto) : D → D → RE
  | .obj n, d => match S[n]? with
    | some (.lst ds) => if ds.length < 16777216 then .ok .non (S.set n (.lst (ds ++ [d]))) else .bad
    | _ => .bad
  | _, _ => .bad
def isL (S : Sto) : D → Bool
  | .obj n => match S[n]? with | some (.lst _) => true | _ => false
  | _ => false
/-- o.append(v) -/
def eApp (mo mv : ME) : ME := fun e S => (mo e S).bind fun o S1 => if isL S1 o = true then (mv e S1).bind fun d S2 => appI S2 o d else .bad
theorem q_app {o v : Expr} {mo mv : ME} {apos : Pos} (ho : PE X o (tE X.K cA W mo)) (hv : PE X v (tE X.K cA W mv))
    (h : ∀ {to : TE} {t : TA}, PE X o to → PA X [v] t → PE X (.Call (.Attribute o "append" apos) [v] [] pos) (tBM X.K "list" rAppend to t)) (hst : starEach [v] X.env = [(false, eval v X.env)] := by rfl) : PE X (.Call (.Attribute o "append" apos) [v] [] pos) (tE X.K cA W (eApp mo mv)) :=
  PEi (h ho (pa_cons hv pa_nil hst)) fun σ H Q ⟨B, ι, e, S, re, p⟩ =>
    .of re (po_bind re p fun ι1 v1 H1 d1 S1 f1 r1 rd1 p1 => by
      split at p1
      · rename_i hl
        unfold isL at hl
        split at hl
        · rename_i n
          split at hl
          · rename_i ds0 q0
            obtain ⟨a, h1, us0, h20, h30⟩ := r1.rs.at_ n _ q0
            obtain ⟨a', rfl, h4⟩ := rd1.obj
            rw [h1] at h4; cases h4
            refine ⟨.inl ⟨rfl, _, SqL.of h20⟩, .of r1 (po_bind r1 p1 fun ι2 v2 H2 d2 S2 f2 r2 rd2 p2 => ?_)⟩
            unfold appI at p2
            simp only at p2
            split at p2
            · rename_i ds q
              split at p2
              · rename_i hz
                obtain ⟨a2, h5, us, h6, h7⟩ := r2.rs.at_ n _ q
                rw [f2.get h1] at h5; cases h5
                refine ⟨a, us, v2, rfl, rfl, h6, by rw [sizeL, ← h7.len]; exact hz, ?_⟩
                have fr : Fr ι2 ι2 H2 (upd H2 a (.lst (us ++ [v2]))) := Fr.at (List.mem_of_getElem? (f2.get h1))
                exact p2 ι2 _ _ fr (r2.rs.setL q (f2.get h1) (h7.append (.cons rd2 .nil))) RD.mk_non
              · exact p2.elim
            · exact p2.elim
          · cases hl
        · cases hl
      · exact p1.elim)
/-- x op= e -/
def sAug (i : Nat) (g : Sto → D → D → Option D) (m : ME) : MS := fun e S => match e[i]? with
  | some (some x) => (m e S).bindS e fun y S1 => match g S1 x y with | some d => .nx (e.set i (some d)) S1 | none => .bad
  | _ => .bad
theorem s_aug {op : Operator} {i : Nat} {m : ME} (ho : O2 X (inplaceOp op) g) (h : ∀ {te : TE} {ti : TIp}, PE X a te → PIp X op ti → PS X st (tAug i te ti)) (ha : PE X a (tE X.K cA W m)) : PS X st (tS X.K cA W (sAug i g m)) := by
  obtain ⟨r, h1, h2⟩ := ho.ex
  have hp : PIp X op r := fun pins s σ H x y v u Q I rx ry q => h1 pins s σ H x y v u Q I rx ry q
  refine PSi (h ha hp) fun D' σ H ⟨B, ι, e, S, re, p⟩ => ?_
  unfold sAug at p
  split at p
  · rename_i x q
    obtain ⟨v, e1, rx⟩ := re.ev i x q
    refine ⟨v, e1, .of re (po_bindS re p fun ι1 v1 H1 d1 S1 f1 r1 rd1 p1 => ?_)⟩
    cases hg : g S1 x d1 with
    | none => rw [hg] at p1; exact p1.elim
    | some d =>
      rw [hg] at p1
      refine h2 cA B ι1 S1 H1 v v1 x d1 d _ r1.rs (RD.fr f1 _ _ rx) rd1 hg fun z H2 sm rd => p1 ι1 _ H2 (Fr.same sm) ?_
      exact (r1.fr (Fr.same sm) (r1.rs.same sm)).set rd
  · exact p.elim
def gIAdd (S : Sto) (a b : D) : Option D := match a, b with
  | .int i, .int j => some (.int (i + j))
  | .str x, .str y => if x.length + y.length ≤ 16777216 then some (.str (x ++ y)) else none
  | _, _ => none
theorem o_iadd : O2 X (inplaceOp .Add) gIAdd := o_mk (iop_add.or iop_add_str) fun cA B ι S H x y a b d Q rs ra rb hg q => by
  unfold gIAdd at hg
  split at hg
  · cases hg
    exact .inl ⟨_, _, ra.int, rb.int, q _ H same_refl RD.mk_int⟩
  · split at hg
    · rename_i hz
      cases hg
      exact .inr ⟨_, _, ra.str, rb.str, by rw [sizeL]; exact hz, q _ H same_refl RD.mk_str⟩
    · cases hg
  · cases hg
theorem o_isub : O2 X (inplaceOp .Sub) gSub := o_mk iop_sub fun cA B ι S H x y a b d Q rs ra rb hg q => by
  unfold gSub at hg
  split at hg
  · cases hg
    exact ⟨_, _, ra.int, rb.int, q _ H same_refl RD.mk_int⟩
  · cases hg
def gNeg (S : Sto) (a : D) : Option D := match a with
  | .int i => some (.int (-i))
  | _ => none
theorem q_neg (ha : PE X a (tE X.K cA W ma)) : PE X (.UnaryOp .USub a pos) (tE X.K cA W (e1 gNeg ma)) := PEi (pe_un un_neg ha) fun σ H Q ⟨B, ι, e, S, re, p⟩ =>
  .of re (po_bind re p fun ι1 v1 H1 d1 S1 f1 r1 rd1 p1 => by
    obtain ⟨d, hd, q⟩ := po_opt p1 r1.rs
    unfold gNeg at hd
    split at hd
    · cases hd
      exact ⟨_, rd1.int, q _ H1 same_refl RD.mk_int⟩
    · cases hd)

/-! ### functions by their names -/
structure FD (P : Program) (w : World) (K : PySem.W.Frag) (mg : Str → Option Value) (base : Heap) (cA : Str → Addr) (k : Nat) (x : Str) (n : Nat) (m : MF) : Prop where
  ex : ∃ (f : Addr) (fd : FuncData) (ps : List Str), FnOk P w K mg base (L2.CX P w) k f fd ps (spM K cA n m) ∧ mg x = some (.ref f) ∧ PySem.W.keepIn K (.ref f) = true ∧ Binds K fd ps []
def eCall' (n : Nat) (m : MF) (am : MA) : ME := fun e S => (am e S).bind fun ds S1 => if ds.length = n then callS m ds S1 else .bad
theorem q_call {x : Str} {k j n : Nat} {m : MF} {p : Pos} (tk : Takes X W) (F : FD X.prog X.w X.K X.mg X.base cA k x n m) (hr : Room j X.A) (hk : k ≤ j) (hg : Gl X x) (ha : PA X (a :: es) (tA X.K cA W xs))
    (hdb : (x == ("__debug__" : Str)) = false := by decide) (he : starEach (a :: es) X.env = (false, eval a X.env) :: starEach es X.env := by rfl) (hpl : (backTo pos (starEach es X.env)).any (·.1) = false := by rfl) :
    PE X (.Call (.Name x p) (a :: es) [] pos) (tE X.K cA W (eCall' n m xs)) := by
  obtain ⟨f, fd, ps, h1, h2, h3, h4⟩ := F.ex
  refine PEi (pe_callS (E := WE W) h1 (hr.mono hk) hg h2 h3 h4 (fun σ => passAt tk σ) ha hdb he hpl) fun σ H Q ⟨B, ι, e, S, re, p⟩ =>
    .of re (poA_bind re p fun ι1 vs H1 ds S1 f1 r1 rd1 p1 => ?_)
  split at p1
  · rename_i hn
    subst hn
    exact call_sub r1.rs rd1 p1
  · exact p1.elim
variable {P : Program} {w : World} {mg : Str → Option Value} {base : Heap}
theorem spM_len {n : Nat} {m : MF} {vs : List V} {Q : VK} {E : XK} (h : spM K cA n m vs H Q E) : vs.length = n := by
  obtain ⟨B, ι, ds, S, h1, h2, _⟩ := h
  rw [← h2.len, h1]
theorem fd_mk {x : Str} {sd : Stmt} {f : Addr} {fd : FuncData} {N ps : List Str} {k : Nat} {body : MS} (F : Fun K x x sd f fd) (mgf : mg x = some (.ref f)) (kp : PySem.W.keepIn K (.ref f) = true) (b : Binds K fd ps []) (sc : FnScope N ps (defScope sd))
    (hb : ∀ (cdv : Value) (A : Around) (outer : List Env) (s : Shared) (H : Hp) (E : XK), Room k (A.deeper (envOfC x (defScope sd) s.heap.objs.size f cdv)) →
      PSs (cxOf (L2.CX P w) P w K mg base N x (defScope sd) f cdv A outer s H E) (defBody sd) (tS K cA (fun c d _ H' => E c d H') body)) : FD P w K mg base cA (k + 1) x ps.length (fnK N.length body) :=
  ⟨f, fd, ps, F.okX sc (fun vs H Q E h => spM_len h) (fun cdv A outer s H vs Q E hr h => ⟨_, hb cdv A outer s H E hr, by
    obtain ⟨B, ι, ds, S, h1, h2, h3, h4⟩ := h
    exact body_ok h2 h3 h4⟩), mgf, kp, b⟩
theorem FD.imp {k n : Nat} {x : Str} {m m' : MF} (F : FD P w K mg base cA k x n m) (h : ∀ B ι ds S H Q E, RS K cA B ι S H → PoF K cA B (m' ds S) ι H Q E → PoF K cA B (m ds S) ι H Q E) : FD P w K mg base cA k x n m' := by
  obtain ⟨f, fd, ps, h1, h2⟩ := F.ex
  exact ⟨f, fd, ps, h1.imp fun vs H Q E ⟨B, ι, ds, S, h3, h4, h5, h6⟩ => ⟨B, ι, ds, S, h3, h4, h5, h _ _ _ _ _ _ _ h5 h6⟩, h2⟩
theorem FD.drop {k n N : Nat} {x : Str} {body : MS} (F : FD P w K mg base cA k x n (fnK N body)) : FD P w K mg base cA k x n (fnD N body) := F.imp fun _ _ _ _ _ _ _ r h => h.drop r.len.symm
theorem FD.mono {k j n : Nat} {x : Str} {m : MF} (F : FD P w K mg base cA k x n m) (h : k ≤ j) : FD P w K mg base cA j x n m := by
  obtain ⟨f, fd, ps, h1, h2⟩ := F.ex
  exact ⟨f, fd, ps, h1.mono h, h2⟩
theorem FD.eq {k n : Nat} {x : Str} {m m' : MF} (F : FD P w K mg base cA k x n m) (h : ∀ ds S, m' ds S = m ds S) : FD P w K mg base cA k x n m' := F.imp fun _ _ ds S _ _ _ _ z => by rw [← h ds S]; exact z

/-- the law: a list of at most 63 numbers, True comes out -/
def spLaw (K : PySem.W.Frag) (n : Nat) : Sp := fun vs H Q _ => ∃ (a : Addr) (ns : List Int), vs = [.ref a] ∧ SqL K H a (ns.map V.int) ∧ ns.length ≤ n ∧ ∀ H', Q (.bl true) H'
theorem RDs.int : ∀ (ns : List Int), RDs K B ι H (ns.map D.int) (ns.map V.int)
  | [] => .nil
  | _ :: r => .cons RD.mk_int (RDs.int r)
theorem law_mk {n : Nat} {sd : Stmt} {f : Addr} {fd : FuncData} {N : List Str} {k : Nat} {body : MS} (F : Fun K "law" "law" sd f fd) (sc : FnScope N ["script"] (defScope sd))
    (hb : ∀ (cdv : Value) (A : Around) (outer : List Env) (s : Shared) (H : Hp) (E : XK), Room k (A.deeper (envOfC "law" (defScope sd) s.heap.objs.size f cdv)) →
      PSs (cxOf CX0 P w K mg base N "law" (defScope sd) f cdv A outer s H E).nox (defBody sd) (tS K cA WF body)) (hm : ∀ ns : List Int, ns.length ≤ n → ∃ S, fnK N.length body [.scr (ns.map D.int)] [] = .ok (.bl true) S) : FnOk P w K mg base CX0 (k + 1) f fd ["script"] (spLaw K n) := by
  refine F.ok sc (fun vs H Q E h => ?_) (fun cdv A outer s H vs Q E hr h => ⟨_, hb cdv A outer s H E hr, ?_⟩)
  · obtain ⟨a, ns, rfl, _⟩ := h
    rfl
  · obtain ⟨a, ns, rfl, hS, hl, q⟩ := h
    obtain ⟨S, e⟩ := hm ns hl
    have rs : RS K cA (fun _ => False) [] [] H := ⟨rfl, .nil, fun _ z => z.elim, fun i c z => by simp at z⟩
    have rd : RD K (fun _ => False) [] H (.scr (ns.map D.int)) (.ref a) := by
      rw [RD]
      exact ⟨a, ns.map V.int, rfl, hS.imp (fun z => ⟨by simp, fun z => z, z⟩) _root_.id, RDs.int ns⟩
    have r := rel_start (N := N) (.cons rd .nil) rs
    refine .of r ?_
    unfold fnK at e
    cases q2 : body ([D.scr (ns.map D.int)].map some ++ List.replicate (N.length - [D.scr (ns.map D.int)].length) none) [] with
    | bad => rw [q2] at e; cases e
    | brk _ _ => rw [q2] at e; cases e
    | cont _ _ => rw [q2] at e; cases e
    | exc _ _ _ => rw [q2] at e; cases e
    | nx _ _ => rw [q2] at e; cases e
    | ret d S' =>
      rw [q2] at e
      cases e
      exact fun ι' v H' fr r rd => by rw [rd.bl]; exact q H'
end
end DL

/-! The data layer: cells that a turn of a loop has made are forgotten. -/
namespace DL
open PySem PySem.Spec PyProof.Rows L2
def lowE (k : Nat) (e : En) : Bool := e.all fun o => match o with | some d => low k d | none => true
def gcS (kill : List Nat) (k : Nat) : RS' → RS'
  | .nx e S => if (lowE k (wipeE e kill) && (S.take k).all (lowC k)) = true then .nx (wipeE e kill) (S.take k) else .bad
  | .cont e S => if (lowE k (wipeE e kill) && (S.take k).all (lowC k)) = true then .cont (wipeE e kill) (S.take k) else .bad
  | r => r
def sGC (kill : List Nat) (body : MS) : MS := fun e S => gcS kill S.length (body e S)
section
variable {X : Cx} {K : PySem.W.Frag} {cA : Str → Addr} {W : WX} {B : Addr → Prop} {ι ι' : List Addr} {S : Sto} {H H' : Hp} {σ : L2.St} {e : En} {sts : List Stmt} {body : MS} {kill : List Nat}
theorem wipeE_get {i : Nat} {d : D} : ∀ {kill : List Nat}, (wipeE e kill)[i]? = some (some d) → e[i]? = some (some d)
  | [], h => h
  | v :: vs, h => by
    unfold wipeE at h
    by_cases hj : v = i
    · subst hj
      by_cases hi : v < (wipeE e vs).length
      · rw [List.getElem?_set_self hi] at h; cases h
      · rw [List.getElem?_eq_none (by rw [List.length_set]; omega)] at h; cases h
    · rw [List.getElem?_set_ne hj] at h
      exact wipeE_get h
theorem wipeE_len : ∀ kill : List Nat, (wipeE e kill).length = e.length
  | [] => rfl
  | v :: vs => by unfold wipeE; rw [List.length_set, wipeE_len vs]
theorem Rel.gc {k : Nat} (r : Rel K cA B ι e S σ H) (h1 : lowE k (wipeE e kill) = true) (h2 : (S.take k).all (lowC k) = true) : Rel K cA B (ι.take k) (wipeE e kill) (S.take k) σ H :=
  ⟨r.rs.cut h2, by rw [wipeE_len]; exact r.len, fun i d h => by
    obtain ⟨v, h3, h4⟩ := r.ev i d (wipeE_get h)
    have := List.all_eq_true.mp h1 _ (List.mem_of_getElem? h)
    exact ⟨v, h3, RD.cut _ _ this h4⟩⟩
theorem z_gc (h : PSs X sts (tS X.K cA W body)) : PSs X sts (tS X.K cA W (sGC kill body)) := PSsi h fun D' σ H ⟨B, ι, e, S, re, p⟩ => .of re (by
  unfold sGC at p
  cases q : body e S with
  | nx e' S' =>
    rw [q] at p
    simp only [gcS] at p
    split at p
    · rename_i hc
      rw [Bool.and_eq_true, ← re.rs.len] at hc
      rw [← re.rs.len] at p
      exact fun ι' σ' H' f r => p _ σ' H' f.cut (r.gc hc.1 hc.2)
    · exact p.elim
  | cont e' S' =>
    rw [q] at p
    simp only [gcS] at p
    split at p
    · rename_i hc
      rw [Bool.and_eq_true, ← re.rs.len] at hc
      rw [← re.rs.len] at p
      exact fun ι' σ' H' f r => p _ σ' H' f.cut (r.gc hc.1 hc.2)
    · exact p.elim
  | bad => rw [q] at p; exact p
  | ret d S' => rw [q] at p; exact p
  | brk e' S' => rw [q] at p; exact p
  | exc c e' S' => rw [q] at p; exact p)
end
end DL

/-! The data layer: how what a def does is reckoned. -/
namespace DL
open PySem PySem.Spec PyProof.Rows L2
section
variable {d : D} {ds : List D} {S : Sto} {c : Str} {b : Bool} {e : En} {i n : Nat}
@[simp] theorem RE.bind_ok {f : D → Sto → RE} : (RE.ok d S).bind f = f d S := rfl
@[simp] theorem RE.bind_exc {f : D → Sto → RE} : (RE.exc c S).bind f = .exc c S := rfl
@[simp] theorem RE.bindA_ok {f : D → Sto → RA} : (RE.ok d S).bindA f = f d S := rfl
@[simp] theorem RE.bindA_exc {f : D → Sto → RA} : (RE.exc c S).bindA f = .exc c S := rfl
@[simp] theorem RE.bindB_ok {f : D → Sto → RB} : (RE.ok d S).bindB f = f d S := rfl
@[simp] theorem RE.bindB_exc {f : D → Sto → RB} : (RE.exc c S).bindB f = .exc c S := rfl
@[simp] theorem RE.bindS_ok {f : D → Sto → RS'} : (RE.ok d S).bindS e f = f d S := rfl
@[simp] theorem RE.bindS_exc {f : D → Sto → RS'} : (RE.exc c S).bindS e f = .exc c e S := rfl
@[simp] theorem RA.bind_ok {f : List D → Sto → RE} : (RA.ok ds S).bind f = f ds S := rfl
@[simp] theorem RA.bind_exc {f : List D → Sto → RE} : (RA.exc c S).bind f = .exc c S := rfl
@[simp] theorem RA.bindA_ok {f : List D → Sto → RA} : (RA.ok ds S).bindA f = f ds S := rfl
@[simp] theorem RA.bindA_exc {f : List D → Sto → RA} : (RA.exc c S).bindA f = .exc c S := rfl
@[simp] theorem RB.bind_ok {f : Bool → Sto → RE} : (RB.ok b S).bind f = f b S := rfl
@[simp] theorem RB.bind_exc {f : Bool → Sto → RE} : (RB.exc c S).bind f = .exc c S := rfl
@[simp] theorem RB.bindB_ok {f : Bool → Sto → RB} : (RB.ok b S).bindB f = f b S := rfl
@[simp] theorem RB.bindB_exc {f : Bool → Sto → RB} : (RB.exc c S).bindB f = .exc c S := rfl
@[simp] theorem RB.bindS_ok {f : Bool → Sto → RS'} : (RB.ok b S).bindS e f = f b S := rfl
@[simp] theorem RB.bindS_exc {f : Bool → Sto → RS'} : (RB.exc c S).bindS e f = .exc c e S := rfl
@[simp] theorem RS'.bind_nx {f : En → Sto → RS'} : (RS'.nx e S).bind f = f e S := rfl
@[simp] theorem RS'.bind_ret {f : En → Sto → RS'} : (RS'.ret d S).bind f = .ret d S := rfl
@[simp] theorem RS'.bind_exc {f : En → Sto → RS'} : (RS'.exc c e S).bind f = .exc c e S := rfl
@[simp] theorem RS'.bind_brk {f : En → Sto → RS'} : (RS'.brk e S).bind f = .brk e S := rfl
@[simp] theorem RS'.bind_cont {f : En → Sto → RS'} : (RS'.cont e S).bind f = .cont e S := rfl
@[simp] theorem opt_some : opt (some d) S = .ok d S := rfl
@[simp] theorem view_int {i : Int} : view S (.int i) = .int i := rfl
@[simp] theorem view_str {i : Str} : view S (.str i) = .str i := rfl
@[simp] theorem view_bl {i : Bool} : view S (.bl i) = .bl i := rfl
@[simp] theorem view_non : view S .non = .non := rfl
@[simp] theorem view_tup : view S (.tup ds) = .tup ds := rfl
@[simp] theorem view_lst : view S (.lst ds) = .lst ds := rfl
@[simp] theorem view_scr : view S (.scr ds) = .lst ds := rfl
@[simp] theorem view_dct {ks : List Key} : view S (.dct ks ds) = .dct ks ds := rfl

variable {a b' c' : ME} {g g' : Sto → D → D → Option D} {h : Sto → D → Option D} {gl : Sto → List D → Option D} {ma mr : MA} {t u : MB} {sa sb : MS} {m : MF} {tg : MTg} {x y : D}
@[simp] theorem eV_ap : eV i e S = match e[i]? with | some (some d) => .ok d S | _ => .bad := rfl
@[simp] theorem eC_ap : eC d e S = .ok d S := rfl
@[simp] theorem e2_ap : e2 g a b' e S = (a e S).bind fun x S1 => (b' e S1).bind fun y S2 => opt (g S2 x y) S2 := rfl
@[simp] theorem e1_ap : e1 h a e S = (a e S).bind fun x S1 => opt (h S1 x) S1 := rfl
@[simp] theorem e3_ap : e3 g g' a b' c' e S = (a e S).bind fun x S1 => (b' e S1).bind fun y S2 => match g S2 x y with
  | some (.bl true) => (c' e S2).bind fun z S3 => opt (g' S3 y z) S3
  | some (.bl false) => .ok (.bl false) S2
  | _ => .bad := rfl
@[simp] theorem tOf_ap : tOf a e S = (a e S).bindB fun x S1 => match x with | .bl b => .ok b S1 | _ => .bad := rfl
@[simp] theorem tNo_ap : tNo t e S = (t e S).bindB fun b S1 => .ok (!b) S1 := rfl
@[simp] theorem tAn_ap : tAn t u e S = (t e S).bindB fun x S1 => if x = true then u e S1 else .ok false S1 := rfl
@[simp] theorem tO_ap : tO t u e S = (t e S).bindB fun x S1 => if x = true then .ok true S1 else u e S1 := rfl
@[simp] theorem tYs_ap : tYs e S = .ok true S := rfl
@[simp] theorem eIf_ap : eIf t a b' e S = (t e S).bind fun x S1 => if x = true then a e S1 else b' e S1 := rfl
@[simp] theorem eNo_ap : eNo a e S = (a e S).bind fun x S1 => match x with | .bl b => .ok (.bl (!b)) S1 | _ => .bad := rfl
@[simp] theorem eAn_ap : eAn a b' e S = (a e S).bind fun x S1 => match x with | .bl true => b' e S1 | .bl false => .ok (.bl false) S1 | _ => .bad := rfl
@[simp] theorem eO_ap : eO a b' e S = (a e S).bind fun x S1 => match x with | .bl false => b' e S1 | .bl true => .ok (.bl true) S1 | _ => .bad := rfl
@[simp] theorem aN_ap : aN e S = .ok [] S := rfl
@[simp] theorem aC_ap : aC a mr e S = (a e S).bindA fun x S1 => (mr e S1).bindA fun xs S2 => .ok (x :: xs) S2 := rfl
@[simp] theorem eTup_ap : eTup ma e S = (ma e S).bind fun xs S1 => if xs.length ≤ 16777216 then .ok (.tup xs) S1 else .bad := rfl
@[simp] theorem eLst_ap : eLst ma e S = (ma e S).bind fun xs S1 => if xs.length ≤ 16777216 then .ok (.lst xs) S1 else .bad := rfl
@[simp] theorem eNew_ap : eNew ma e S = (ma e S).bind fun xs S1 => if xs.length ≤ 16777216 then .ok (.obj S1.length) (S1 ++ [.lst xs]) else .bad := rfl
@[simp] theorem eB_ap : eB gl ma e S = (ma e S).bind fun xs S1 => opt (gl S1 xs) S1 := rfl
@[simp] theorem eSl2_ap : eSl2 a b' c' e S = (a e S).bind fun x S1 => (b' e S1).bind fun i S2 => if isPart i = true then (c' e S2).bind fun j S3 => if isPart j = true then opt (gSl (part i) (part j) S3 x) S3 else .bad else .bad := rfl
@[simp] theorem eSlL_ap : eSlL a b' e S = (a e S).bind fun x S1 => (b' e S1).bind fun i S2 => if isPart i = true then opt (gSl (part i) none S2 x) S2 else .bad := rfl
@[simp] theorem eSlH_ap : eSlH a b' e S = (a e S).bind fun x S1 => (b' e S1).bind fun j S2 => if isPart j = true then opt (gSl none (part j) S2 x) S2 else .bad := rfl
@[simp] theorem isPart_int {i : Int} : isPart (.int i) = true := rfl
@[simp] theorem part_int' {i : Int} : part (.int i) = some i := rfl
@[simp] theorem sPass_ap : sPass e S = .nx e S := rfl
@[simp] theorem sSeq_ap : sSeq sa sb e S = (sa e S).bind sb := rfl
@[simp] theorem sSet_ap : sSet i a e S = (a e S).bindS e fun d S1 => .nx (e.set i (some d)) S1 := rfl
@[simp] theorem sEx_ap : sEx a e S = (a e S).bindS e fun _ S1 => .nx e S1 := rfl
@[simp] theorem sRet_ap : sRet a e S = (a e S).bindS e fun d S1 => .ret d S1 := rfl
@[simp] theorem sRetN_ap : sRetN e S = .ret .non S := rfl
@[simp] theorem sIf_ap : sIf t sa sb e S = (t e S).bindS e fun x S1 => if x = true then sa e S1 else sb e S1 := rfl
@[simp] theorem sBrk_ap : sBrk e S = .brk e S := rfl
@[simp] theorem sCont_ap : sCont e S = .cont e S := rfl
@[simp] theorem sAsg_ap : sAsg tg a e S = (a e S).bindS e fun d S1 => match tg d e with | some e' => .nx e' S1 | none => .bad := rfl
@[simp] theorem sSetI_ap : sSetI a b' c' e S = (c' e S).bindS e fun d S1 => (a e S1).bindS e fun o S2 => (b' e S2).bindS e fun i S3 => putI S3 e o i d := rfl
@[simp] theorem eApp_ap : eApp a b' e S = (a e S).bind fun o S1 => if isL S1 o = true then (b' e S1).bind fun d S2 => appI S2 o d else .bad := rfl
@[simp] theorem sAug_ap : sAug i g a e S = match e[i]? with
  | some (some x) => (a e S).bindS e fun y S1 => match g S1 x y with | some d => .nx (e.set i (some d)) S1 | none => .bad
  | _ => .bad := rfl
@[simp] theorem eCall_ap {k : Nat} : eCall' k m ma e S = (ma e S).bind fun ds S1 => if ds.length = k then callS m ds S1 else .bad := rfl
@[simp] theorem mNm_ap : mNm i d e = some (e.set i (some d)) := rfl
@[simp] theorem fnK_ap {k : Nat} : fnK k sa ds S = match sa (ds.map some ++ List.replicate (k - ds.length) none) S with
  | .nx _ S' => .ok .non S'
  | .ret d S' => .ok d S'
  | .exc c _ S' => .exc c S'
  | _ => .bad := rfl
theorem fnD_ap {k : Nat} : fnD k sa ds S = match fnK k sa ds S with
  | .ok d S' => if low S.length (still S.length S' d) = true ∧ (S'.take S.length).all (lowC S.length) = true then .ok (still S.length S' d) (S'.take S.length) else .bad
  | .exc c S' => if (S'.take S.length).all (lowC S.length) = true then .exc c (S'.take S.length) else .bad
  | .bad => .bad := rfl
@[simp] theorem gIx_lst {i : Int} : gIx S (.lst ds) (.int i) = atI ds i := rfl
@[simp] theorem gIx_tup {i : Int} : gIx S (.tup ds) (.int i) = atI ds i := rfl
@[simp] theorem atI0 {α : Type} {z : α} {zs : List α} : atI (z :: zs) 0 = some z := atI_nat (j := 0) rfl
@[simp] theorem atI1 {α : Type} {z z' : α} {zs : List α} : atI (z :: z' :: zs) 1 = some z' := atI_nat (j := 1) rfl
@[simp] theorem atI2 {α : Type} {z z' z2 : α} {zs : List α} : atI (z :: z' :: z2 :: zs) 2 = some z2 := atI_nat (j := 2) rfl
@[simp] theorem gAdd_int {i j : Int} : gAdd S (.int i) (.int j) = some (.int (i + j)) := rfl
@[simp] theorem gSub_int {i j : Int} : gSub S (.int i) (.int j) = some (.int (i - j)) := rfl
theorem gAdd_str {i j : Str} (h : i.length + j.length ≤ 16777216) : gAdd S (.str i) (.str j) = some (.str (i ++ j)) := by simp [gAdd, h]
theorem gMul_int {i j : Int} (h : (-18446744073709551616 < i ∧ i < 18446744073709551616) ∨ (-18446744073709551616 < j ∧ j < 18446744073709551616)) : gMul S (.int i) (.int j) = some (.int (i * j)) := by simp only [gMul, view_int]; rw [if_pos (by simpa using h)]
theorem gMod_int {i j : Int} (h : 0 < j) : gMod S (.int i) (.int j) = some (.int (i % j)) := by simp [gMod, h]
theorem gFdiv_int {i j : Int} (h : 0 < j) (h2 : j < 1073741824) : gFdiv S (.int i) (.int j) = some (.int (i / j)) := by simp [gFdiv, h, h2]
@[simp] theorem gI_int {p : Int → Int → Bool} {i j : Int} : gI p S (.int i) (.int j) = some (.bl (p i j)) := rfl
@[simp] theorem iGt_ap {i j : Int} : iGt i j = decide (j < i) := rfl
@[simp] theorem iGe_ap {i j : Int} : iGe i j = decide (j ≤ i) := rfl
@[simp] theorem gLt_int {i j : Int} : gLt S (.int i) (.int j) = some (.bl (decide (i < j))) := rfl
@[simp] theorem gLe_int {i j : Int} : gLe S (.int i) (.int j) = some (.bl (decide (i ≤ j))) := rfl
@[simp] theorem deq_int {i j : Int} : deq (.int i) (.int j) = some (decide (i = j)) := by simp [deq, fla, scal]
@[simp] theorem deq_bl {i j : Bool} : deq (.bl i) (.bl j) = some (decide (i = j)) := by simp [deq, fla, scal]
@[simp] theorem deq_str {i j : Str} : deq (.str i) (.str j) = some (decide (i = j)) := by simp [deq, fla, scal]
@[simp] theorem gEq_int {i j : Int} : gEq S (.int i) (.int j) = some (.bl (decide (i = j))) := by simp [gEq]
@[simp] theorem gNe_int {i j : Int} : gNe S (.int i) (.int j) = some (.bl (!decide (i = j))) := by simp [gNe]
@[simp] theorem gEq_bl {i j : Bool} : gEq S (.bl i) (.bl j) = some (.bl (decide (i = j))) := by simp [gEq]
@[simp] theorem gNe_bl {i j : Bool} : gNe S (.bl i) (.bl j) = some (.bl (!decide (i = j))) := by simp [gNe]
@[simp] theorem gEq_str {i j : Str} : gEq S (.str i) (.str j) = some (.bl (decide (i = j))) := by simp [gEq]
@[simp] theorem gNe_str {i j : Str} : gNe S (.str i) (.str j) = some (.bl (!decide (i = j))) := by simp [gNe]
@[simp] theorem low_int {i : Int} {k : Nat} : low k (.int i) = true := rfl
@[simp] theorem low_str {i : Str} {k : Nat} : low k (.str i) = true := rfl
@[simp] theorem low_bl {i : Bool} {k : Nat} : low k (.bl i) = true := rfl
@[simp] theorem low_non {k : Nat} : low k .non = true := rfl
@[simp] theorem low_obj {i k : Nat} : low k (.obj i) = decide (i < k) := rfl
@[simp] theorem low_tup {k : Nat} : low k (.tup ds) = lows k ds := rfl
@[simp] theorem low_lst {k : Nat} : low k (.lst ds) = lows k ds := rfl
@[simp] theorem low_scr {k : Nat} : low k (.scr ds) = lows k ds := rfl
@[simp] theorem lows_nil {k : Nat} : lows k [] = true := rfl
@[simp] theorem lows_cons {k : Nat} : lows k (d :: ds) = (low k d && lows k ds) := rfl
@[simp] theorem cl_int {i : Int} : cl (.int i) = true := rfl
@[simp] theorem cl_str {i : Str} : cl (.str i) = true := rfl
@[simp] theorem cl_bl {i : Bool} : cl (.bl i) = true := rfl
@[simp] theorem cl_non : cl .non = true := rfl
@[simp] theorem cl_tup : cl (.tup ds) = cls ds := rfl
@[simp] theorem cl_lst : cl (.lst ds) = cls ds := rfl
@[simp] theorem cl_scr : cl (.scr ds) = cls ds := rfl
@[simp] theorem cl_obj : cl (.obj n) = false := rfl
@[simp] theorem cls_nil : cls [] = true := rfl
@[simp] theorem cls_cons : cls (d :: ds) = (cl d && cls ds) := rfl
@[simp] theorem still_int {i : Int} {k : Nat} : still k S (.int i) = .int i := rfl
@[simp] theorem still_str {i : Str} {k : Nat} : still k S (.str i) = .str i := rfl
@[simp] theorem still_bl {i : Bool} {k : Nat} : still k S (.bl i) = .bl i := rfl
@[simp] theorem still_non {k : Nat} : still k S .non = .non := rfl
@[simp] theorem still_tup {k : Nat} : still k S (.tup ds) = .tup ds := rfl
@[simp] theorem still_lst {k : Nat} : still k S (.lst ds) = .lst ds := rfl
@[simp] theorem lowC_lst {k : Nat} : lowC k (.lst ds) = lows k ds := rfl

theorem forD_inv {C : Sto → Prop} {tg : MTg} {body : MS} (P : Nat → En → Sto → Prop) : ∀ (ds : List D) (k : Nat) (e : En) (S : Sto), (∀ i d e S, ds[i]? = some d → P (k + i) e S → C S ∧ ∃ e1, tg d e = some e1 ∧ ∃ e2 S2, (body e1 S = .nx e2 S2 ∨ body e1 S = .cont e2 S2) ∧ P (k + i + 1) e2 S2) →
    (∀ e S, P (k + ds.length) e S → C S) → P k e S → ∃ e' S', forD C tg body ds e S = .nx e' S' ∧ P (k + ds.length) e' S'
  | [], k, e, S, _, hd, p => by
    unfold forD
    rw [if_pos (hd e S p)]
    exact ⟨e, S, rfl, p⟩
  | d :: ds, k, e, S, h, hd, p => by
    obtain ⟨hC, e1, h1, e2, S2, h2, p2⟩ := h 0 d e S rfl p
    unfold forD
    rw [if_pos hC, h1]
    have ih := forD_inv P ds (k + 1) e2 S2 (fun i d' e' S' hi p' => by
      have := h (i + 1) d' e' S' (by simpa using hi) (by rw [show k + (i + 1) = k + 1 + i by omega]; exact p')
      rw [show k + (i + 1) + 1 = k + 1 + i + 1 by omega] at this
      exact this) (fun e' S' p' => hd e' S' (by rw [show k + (d :: ds).length = k + 1 + ds.length by simp; omega]; exact p')) p2
    rw [show k + (d :: ds).length = k + 1 + ds.length by simp; omega]
    simp only
    rcases h2 with h2 | h2
    · rw [h2]; exact ih
    · rw [h2]; exact ih
theorem lcD_map {C : Sto → Prop} {tg : MTg} {el : ME} {e0 : En} {f : D → D} (hC : C S) : ∀ (ds acc : List D), (∀ d ∈ ds, ∃ e1, tg d e0 = some e1 ∧ el e1 S = .ok (f d) S) → acc.length + ds.length ≤ 16777216 → lcD C tg tYs el e0 ds acc S = .ok (.lst (acc ++ ds.map f)) S
  | [], acc, _, _ => by
    unfold lcD
    rw [if_pos hC]; simp
  | d :: ds, acc, h, hl => by
    obtain ⟨e1, h1, h2⟩ := h d List.mem_cons_self
    rw [List.length_cons] at hl
    unfold lcD
    rw [if_pos hC, h1]
    simp only [tYs_ap, h2]
    rw [if_pos (by omega), lcD_map hC ds (acc ++ [f d]) (fun d' hd => h d' (List.mem_cons_of_mem _ hd)) (by rw [List.length_append]; simp; omega)]
    simp
theorem sin_one {k : Nat} {y : Str} : sin ⟨#[k]⟩ y = decide (k ∈ y.cps.toList) := rfl
@[simp] theorem bls_map {α : Type} {f : α → Bool} : ∀ l : List α, bls (l.map fun z => D.bl (f z)) = some (l.map f)
  | [] => rfl
  | z :: l => by rw [List.map_cons, bls, bls_map l]; rfl
@[simp] theorem gLb_lst {f : List Bool → Bool} : gLb f S [.lst ds] = (bls ds).map fun bs => .bl (f bs) := rfl
@[simp] theorem gLen_tup : gLen S [.tup ds] = some (.int ds.length) := rfl
@[simp] theorem gLen_lst : gLen S [.lst ds] = some (.int ds.length) := rfl
@[simp] theorem gLen_scr : gLen S [.scr ds] = some (.int ds.length) := rfl
theorem gLen_str {z : Str} (h : z.length ≤ 16777216) : gLen S [.str z] = some (.int z.length) := by simp [gLen, h]
theorem gIx_str {z : Str} {i : Int} (h : z.length ≤ 16777216) : gIx S (.str z) (.int i) = (atI z.cps.toList i).map fun c => .str ⟨#[c]⟩ := by simp [gIx, h]
@[simp] theorem gIn_str {y z : Str} : gIn S (.str y) (.str z) = some (.bl (sin y z)) := rfl
@[simp] theorem gNin_str {y z : Str} : gNin S (.str y) (.str z) = some (.bl (!sin y z)) := rfl
@[simp] theorem items_str {z : Str} : items S (.str z) = some (signs z) := rfl
@[simp] theorem items_lst : items S (.lst ds) = some ds := rfl
@[simp] theorem items_tup : items S (.tup ds) = some ds := rfl
@[simp] theorem items_scr : items S (.scr ds) = some ds := rfl
theorem eLc_ap {it el : ME} {own : List Nat} : eLc it tg t el own e S = (it e S).bind fun d S1 => match items S1 d with
  | some ds => lcD (fun S' => view S' d = view S1 d) tg t el (wipeE e own) ds [] S1
  | none => .bad := rfl
theorem sFor_ap {it : ME} : sFor it tg sa e S = (it e S).bindS e fun d S1 => match items S1 d with
  | some ds => forD (fun S' => view S' d = view S1 d) tg sa ds e S1
  | none => .bad := rfl
theorem sForR_ap {it : ME} : sForR it tg sa e S = (it e S).bindS e fun d S1 => match d with
  | .int n => if -(2 ^ 62) ≤ n ∧ n < 2 ^ 62 then forD (fun _ => True) tg sa (rng 0 n.toNat) e S1 else .bad
  | _ => .bad := rfl
theorem sGC_ap {kill : List Nat} : sGC kill sa e S = gcS kill S.length (sa e S) := rfl
/-- a call without cells -/
theorem call_none {m : MF} (h : ds.all cl = true) : callS m ds S = match m ds [] with | .ok d S2 => if (flatO d && S2.all okC) = true then .ok (mapO (outN [] S.length) d) (back [] S S2) else .bad | .exc c S2 => if S2.all okC = true then .exc c (back [] S S2) else .bad | .bad => .bad := by
  have h1 : tops ds = [] := by
    unfold tops
    rw [List.filterMap_eq_nil_iff]
    intro d hd
    have := List.all_eq_true.mp h d hd
    cases d <;> first | rfl | cases this
  have h2 : ds.all flatO = true := List.all_eq_true.mpr fun d hd => by
    have := List.all_eq_true.mp h d hd
    cases d <;> first | exact this | cases this
  have h3 : ds.all (inj1 []) = true := List.all_eq_true.mpr fun d hd => by
    have := List.all_eq_true.mp h d hd
    cases d <;> first | rfl | cases this
  have h4 : ds.map (mapO ([] : List Nat).idxOf) = ds := by
    conv => rhs; rw [← List.map_id ds]
    refine List.map_congr_left fun d hd => ?_
    have := List.all_eq_true.mp h d hd
    cases d <;> first | rfl | cases this
  unfold callS callJ
  rw [h1]
  simp only [clo, h2, h3, h4, List.all_nil, List.map_nil, List.nodup_nil, decide_true, Bool.and_self, if_true]
  first | done | rfl
@[simp] theorem back_nil : back [] S [] = S := by
  unfold back
  simp
  exact List.ext_getElem? fun i => by simp

theorem eLc_of {it el : ME} {own : List Nat} {S1 : Sto} {f : D → D} (h : it e S = .ok d S1) (hi : items S1 d = some ds) (hf : ∀ z ∈ ds, ∃ e1, tg z (wipeE e own) = some e1 ∧ el e1 S1 = .ok (f z) S1) (hl : ds.length ≤ 16777216) : eLc it tg tYs el own e S = .ok (.lst (ds.map f)) S1 := by
  rw [eLc_ap, h, RE.bind_ok, hi]
  simp only
  rw [lcD_map (C := fun S' => view S' d = view S1 d) rfl ds [] hf (by simpa using hl)]
  simp
theorem eLc_signs {it el : ME} {own : List Nat} {S1 : Sto} {t : Str} {f : Nat → D} (h : it e S = .ok (.str t) S1) (hf : ∀ k ∈ t.cps.toList, el ((wipeE e own).set i (some (.str ⟨#[k]⟩))) S1 = .ok (f k) S1) (hl : t.length ≤ 16777216) : eLc it (mNm i) tYs el own e S = .ok (.lst (t.cps.toList.map f)) S1 := by
  rw [eLc_of (f := fun z => match z with | .str x => f (x.cps.getD 0 0) | z => z) h (items_str) (fun z hz => ?_) (by simpa [signs, Str.length] using hl)]
  · simp [signs, Function.comp_def]
  · simp only [signs, List.mem_map] at hz
    obtain ⟨k, hk, rfl⟩ := hz
    exact ⟨_, rfl, by simpa using hf k hk⟩
theorem gIx_sign {t : Str} {k : Nat} {r : List Nat} (h : t.length ≤ 16777216) (e : t.cps.toList = k :: r) : gIx S (.str t) (.int 0) = some (.str ⟨#[k]⟩) := by
  rw [gIx_str h, e, atI0]; rfl
theorem str_len (t : Str) : t.length = t.cps.toList.length := by simp [Str.length]
@[simp] theorem app_len (x y : Str) : (x ++ y).length = x.length + y.length := by
  show (x.cps ++ y.cps).size = _
  rw [Array.size_append]; rfl
@[simp] theorem sign_len (k : Nat) : (Str.mk #[k]).length = 1 := rfl
@[simp] theorem rng_len (lo : Int) (n : Nat) : (rng lo n).length = n := by simp [rng]
theorem gSl_str {lo hi : Option Int} {z : Str} (h : z.length ≤ 16777216) : gSl lo hi S (.str z) = some (.str (cutS z lo hi)) := by simp [gSl, h]
@[simp] theorem lows_ints {k : Nat} : ∀ ns : List Int, lows k (ns.map D.int) = true
  | [] => rfl
  | _ :: r => by rw [List.map_cons, lows_cons, lows_ints r]; rfl
@[simp] theorem cls_ints : ∀ ns : List Int, cls (ns.map D.int) = true
  | [] => rfl
  | _ :: r => by rw [List.map_cons, cls_cons, cls_ints r]; rfl
@[simp] theorem lowE_nil {k : Nat} : lowE k [] = true := rfl
@[simp] theorem lowE_some {k : Nat} : lowE k (some d :: e) = (low k d && lowE k e) := rfl
@[simp] theorem lowE_none {k : Nat} : lowE k (none :: e) = lowE k e := by simp [lowE]
theorem gMul_str {z : Str} {k : Int} (h : k < 2147483648 ∧ -2147483648 < k ∧ k.toNat * z.length ≤ 16777216) : gMul S (.str z) (.int k) = some (.str (srep z k.toNat)) := by
  simp only [gMul, view_str, view_int]
  rw [if_pos (by simpa using h)]
end
end DL

namespace Law
open PySem PySem.Spec PyProof.Rows L2 DL
noncomputable def b_is_name : MS := sSeq (sIf (tO (tNo (tOf (e1 (gIsi "str") (eV 0)))) (tO (tNo (tOf (e3 gLe gLe (eC (.int 1)) (eB gLen (aC (eV 0) (aN))) (eC (.int 24))))) (tOf (e2 gNin (e2 gIx (eV 0) (eC (.int 0))) (eC (.str "abcdefghijklmnopqrstuvwxyz")))))) (sRet (eC (.bl false))) (sPass)) (sRet (eB (gLb allB) (aC (eLc (eV 0) (mNm 1) (tYs) (e2 gIn (eV 1) (eC (.str "abcdefghijklmnopqrstuvwxyz0123456789./"))) [1]) (aN))))
noncomputable def m_is_name : MF := fnD 2 b_is_name
noncomputable def b__law_pot : MS := sSeq (sIf (tOf (e2 (gI iGe) (eB gAbs (aC (eV 0) (aN))) (e2 gPow (eC (.int 10)) (eC (.int 18))))) (sRet (eNew (aC (eB gAbs (aC (eV 0) (aN))) (aC (eV 1) (aN))))) (sPass)) (sRet (eNew (aC (eC (.int 0)) (aC (e2 gMod (e2 gMul (e2 gAdd (e2 gAdd (e2 gMod (eV 0) (eC (.int 2147483647))) (e2 gMul (eC (.int 7919)) (eV 1))) (eC (.int 11))) (eC (.int 48271))) (eC (.int 2147483647))) (aN)))))
noncomputable def m__law_pot : MF := fnK 2 b__law_pot
noncomputable def b__law_take : MS := sSeq (sIf (tOf (e2 (gI iGt) (e2 gIx (eV 0) (eC (.int 0))) (eC (.int 0)))) (sSeq (sSet 2 (e2 gMod (e2 gIx (eV 0) (eC (.int 0))) (eV 1))) (sSeq (sSetI (eV 0) (eC (.int 0)) (e2 gFdiv (e2 gIx (eV 0) (eC (.int 0))) (eV 1))) (sRet (eV 2)))) (sPass)) (sSeq (sSetI (eV 0) (eC (.int 1)) (e2 gMod (e2 gAdd (e2 gMul (e2 gIx (eV 0) (eC (.int 1))) (e2 gIx (eV 0) (eC (.int 1)))) (eC (.int 104729))) (eC (.int 2147483629)))) (sRet (e2 gMod (e2 gFdiv (e2 gMod (e2 gMul (e2 gIx (eV 0) (eC (.int 1))) (eC (.int 48271))) (eC (.int 2147483647))) (eC (.int 7))) (eV 1))))
noncomputable def m__law_take : MF := fnD 3 b__law_take
noncomputable def b__law_text : MS := sSeq (sSet 1 (eC (.str ""))) (sSeq (sForR (e2 gIx (eLst (aC (eCall' 2 m__law_take (aC (eV 0) (aC (eC (.int 4)) (aN)))) (aC (eCall' 2 m__law_take (aC (eV 0) (aC (eC (.int 28)) (aN)))) (aC (e2 gAdd (eC (.int 22)) (eCall' 2 m__law_take (aC (eV 0) (aC (eC (.int 6)) (aN))))) (aN))))) (eCall' 2 m__law_take (aC (eV 0) (aC (eC (.int 3)) (aN))))) (mNm 2) (sSet 1 (e2 gAdd (eV 1) (e2 gIx (eC (.str "abcmyz0189./")) (eCall' 2 m__law_take (aC (eV 0) (aC (eC (.int 12)) (aN)))))))) (sSeq (sIf (tOf (e2 gEq (eCall' 2 m__law_take (aC (eV 0) (aC (eC (.int 2)) (aN)))) (eC (.int 1)))) (sSeq (sSet 3 (eCall' 2 m__law_take (aC (eV 0) (aC (e2 gAdd (eB gLen (aC (eV 1) (aN))) (eC (.int 1))) (aN))))) (sSet 1 (e2 gAdd (e2 gAdd (eSlH (eV 1) (eV 3)) (e2 gIx (eC (.str "AZ _-\t{`~a")) (eCall' 2 m__law_take (aC (eV 0) (aC (eC (.int 10)) (aN)))))) (eSlL (eV 1) (e2 gAdd (eV 3) (eC (.int 1))))))) (sPass)) (sRet (eV 1))))
noncomputable def m__law_text : MF := fnD 4 b__law_text
noncomputable def b__law_is_name : MS := sSeq (sIf (tO (tOf (e2 gLt (eB gLen (aC (eV 0) (aN))) (eC (.int 1)))) (tO (tOf (e2 (gI iGt) (eB gLen (aC (eV 0) (aN))) (eC (.int 24)))) (tOf (e2 gNin (e2 gIx (eV 0) (eC (.int 0))) (eC (.str "abcdefghijklmnopqrstuvwxyz")))))) (sRet (eC (.bl false))) (sPass)) (sRet (eB (gLb allB) (aC (eLc (eV 0) (mNm 1) (tYs) (e2 gIn (eV 1) (eC (.str "abcdefghijklmnopqrstuvwxyz0123456789./"))) [1]) (aN))))
noncomputable def m__law_is_name : MF := fnD 2 b__law_is_name
noncomputable def b_law : MS := sSeq (sFor (eLst (aC (eC (.int 7)) (aC (eC (.bl true)) (aC (eC .non) (aC (eLst (aC (eC (.str "a")) (aN))) (aC (eTup (aC (eC (.str "a")) (aN))) (aC (eTup (aN)) (aC (eC (.str "")) (aN))))))))) (mNm 1) (sIf (tOf (e2 gIsn (eCall' 1 m_is_name (aC (eV 1) (aN))) (eC (.bl false)))) (sRet (eC (.bl false))) (sPass))) (sSeq (sFor (e2 gAdd (eLst (aC (eB gLen (aC (eV 0) (aN))) (aN))) (eB gList (aC (eV 0) (aN)))) (mNm 2) (sGC [3] (sSeq (sSet 3 (eCall' 2 m__law_pot (aC (eV 2) (aC (eC (.int 2)) (aN))))) (sForR (eC (.int 3)) (mNm 4) (sSeq (sSet 5 (eCall' 1 m__law_text (aC (eV 3) (aN)))) (sSeq (sSet 6 (eCall' 1 m_is_name (aC (eV 5) (aN)))) (sIf (tO (tNo (tOf (e1 (gIsi "bool") (eV 6)))) (tOf (e2 gNe (eV 6) (eCall' 1 m__law_is_name (aC (eV 5) (aN)))))) (sRet (eC (.bl false))) (sPass)))))))) (sRet (eAn (eCall' 1 m_is_name (aC (eC (.str "a")) (aN))) (eAn (eCall' 1 m_is_name (aC (e2 gMul (eC (.str "b")) (eC (.int 24))) (aN))) (eNo (eCall' 1 m_is_name (aC (e2 gMul (eC (.str "b")) (eC (.int 25))) (aN))))))))
noncomputable def m_law : MF := fnK 7 b_law

end Law

namespace Law
open PySem PySem.Spec PyProof.Rows L2 DL
def topS (i : Nat) : Stmt := PySem.Challenge.pw_askwright_k02_what_is_a_name.main.body.getD i (.Pass ⟨0, 0, 0, 0⟩)
abbrev s_is_name : Stmt := topS 4
theorem sc_is_name : FnScope ["value", "sign"] ["value"] (defScope s_is_name) := ⟨rfl, rfl, rfl, by decide +kernel, rfl, by decide +kernel, by decide +kernel⟩
abbrev s__law_pot : Stmt := topS 6
theorem sc__law_pot : FnScope ["cell", "salt"] ["cell", "salt"] (defScope s__law_pot) := ⟨rfl, rfl, rfl, by decide +kernel, rfl, by decide +kernel, by decide +kernel⟩
abbrev s__law_take : Stmt := topS 7
theorem sc__law_take : FnScope ["pot", "many", "digit"] ["pot", "many"] (defScope s__law_take) := ⟨rfl, rfl, rfl, by decide +kernel, rfl, by decide +kernel, by decide +kernel⟩
abbrev s__law_text : Stmt := topS 8
theorem sc__law_text : FnScope ["pot", "text", "k", "at"] ["pot"] (defScope s__law_text) := ⟨rfl, rfl, rfl, by decide +kernel, rfl, by decide +kernel, by decide +kernel⟩
abbrev s__law_is_name : Stmt := topS 9
theorem sc__law_is_name : FnScope ["text", "sign"] ["text"] (defScope s__law_is_name) := ⟨rfl, rfl, rfl, by decide +kernel, rfl, by decide +kernel, by decide +kernel⟩
abbrev s_law : Stmt := topS 10
theorem sc_law : FnScope ["script", "value", "cell", "pot", "turn", "text", "found"] ["script"] (defScope s_law) := ⟨rfl, rfl, rfl, by decide +kernel, rfl, by decide +kernel, by decide +kernel⟩
/-- what the top has written -/
structure Txt (mg : Str → Option Value) : Prop where
  n_abs : mg "abs" = none
  n_all : mg "all" = none
  n_bool : mg "bool" = none
  n_isinstance : mg "isinstance" = none
  n_len : mg "len" = none
  n_list : mg "list" = none
  n_range : mg "range" = none
  n_str : mg "str" = none
  g_LETTERS : ∃ t, mg "LETTERS" = some (.str "abcdefghijklmnopqrstuvwxyz" t)
  g_MOST_NAME : ∃ t, mg "MOST_NAME" = some (.int 24 t)
  g_NAME_SIGNS : ∃ t, mg "NAME_SIGNS" = some (.str "abcdefghijklmnopqrstuvwxyz0123456789./" t)
section
variable {P : Program} {w : World} {K : PySem.W.Frag} {mg : Str → Option Value} {base : Heap} {cA : Str → Addr}
theorem ok_is_name {f : Addr} {fd : FuncData} (T : Txt mg)  (F : Fun K "is_name" "is_name" s_is_name f fd) (mgf : mg "is_name" = some (.ref f)) (kp : PySem.W.keepIn K (.ref f) = true) (bd : Binds K fd ["value"] []) : FD P w K mg base cA 1 "is_name" 1 m_is_name :=
  FD.drop (N := 2) (body := b_is_name) (fd_mk (body := b_is_name) (N := ["value", "sign"]) (ps := ["value"]) (k := 0) F mgf kp bd sc_is_name (fun cdv A outer s H E hr =>
    (z_cons (s_if ((w_or (k_not (k_val (q_isi (n := "str") (by rfl) T.n_isinstance (q_v (pv 0)) (q_ty (by rfl) T.n_str (by decide +kernel))))) (w_or (k_not (k_chain o_le o_le (q_int) (q_callB c_len (by rfl) T.n_len (by decide +kernel) (a_cons (q_v (pv 0)) (a_nil))) (q_gint (by rfl) T.g_MOST_NAME))) (w_or1 (k_cmp o_nin (q_ix (q_v (pv 0)) (q_int)) (q_gstr (by rfl) T.g_LETTERS))))).pt) (z_one (s_ret (q_bl))) (z_nil))
    (z_one (s_ret (q_callB (c_all rfl) (by rfl) T.n_all (by decide +kernel) (a_cons (q_lc (own := [("sign", 1)]) (g := gName 1) (g_nm) (by decide) rfl sc_is_name.nd (q_v (pv 0)) (blkOk_by (N := ["value", "sign"]) (sc := defScope s_is_name) (by decide +kernel)) (fun _ _ _ _ _ => pg_name (i := 1) sc_is_name.nd rfl (.inl rfl)) (fun _ _ _ _ _ => x_nil) (fun _ _ _ _ _ => q_cmp o_in (q_v (pv 1)) (q_gstr (by rfl) T.g_NAME_SIGNS))) (a_nil))))))))
theorem ok__law_pot {f : Addr} {fd : FuncData} (T : Txt mg)  (F : Fun K "_law_pot" "_law_pot" s__law_pot f fd) (mgf : mg "_law_pot" = some (.ref f)) (kp : PySem.W.keepIn K (.ref f) = true) (bd : Binds K fd ["cell", "salt"] []) : FD P w K mg base cA 1 "_law_pot" 2 m__law_pot :=
  (fd_mk (body := b__law_pot) (N := ["cell", "salt"]) (ps := ["cell", "salt"]) (k := 0) F mgf kp bd sc__law_pot (fun cdv A outer s H E hr =>
    (z_cons (s_if (k_cmp o_geI (q_callB c_abs (by rfl) T.n_abs (by decide +kernel) (a_cons (q_v (pv 0)) (a_nil))) (q_op o_pow (q_int) (q_int))) (z_one (s_ret (q_new (a_cons (q_callB c_abs (by rfl) T.n_abs (by decide +kernel) (a_cons (q_v (pv 0)) (a_nil))) (a_cons (q_v (pv 1)) (a_nil)))))) (z_nil))
    (z_one (s_ret (q_new (a_cons (q_int) (a_cons (q_op o_mod (q_op o_mul (q_op o_add (q_op o_add (q_op o_mod (q_v (pv 0)) (q_int)) (q_op o_mul (q_int) (q_v (pv 1)))) (q_int)) (q_int)) (q_int)) (a_nil)))))))))
theorem ok__law_take {f : Addr} {fd : FuncData} (T : Txt mg)  (F : Fun K "_law_take" "_law_take" s__law_take f fd) (mgf : mg "_law_take" = some (.ref f)) (kp : PySem.W.keepIn K (.ref f) = true) (bd : Binds K fd ["pot", "many"] []) : FD P w K mg base cA 1 "_law_take" 2 m__law_take :=
  FD.drop (N := 3) (body := b__law_take) (fd_mk (body := b__law_take) (N := ["pot", "many", "digit"]) (ps := ["pot", "many"]) (k := 0) F mgf kp bd sc__law_take (fun cdv A outer s H E hr =>
    (z_cons (s_if (k_cmp o_gtI (q_ix (q_v (pv 0)) (q_int)) (q_int)) (z_cons (s_set (ps_set (i := 2) sc__law_take.nd rfl (.inl rfl) (q_op o_mod (q_ix (q_v (pv 0)) (q_int)) (q_v (pv 1)))))
    (z_cons (s_setI (fun hv ho hi => ps_asg hv (pg_sub ho hi set_list)) (q_op o_fdiv (q_ix (q_v (pv 0)) (q_int)) (q_v (pv 1))) (q_v (pv 0)) (q_int))
    (z_one (s_ret (q_v (pv 2)))))) (z_nil))
    (z_cons (s_setI (fun hv ho hi => ps_asg hv (pg_sub ho hi set_list)) (q_op o_mod (q_op o_add (q_op o_mul (q_ix (q_v (pv 0)) (q_int)) (q_ix (q_v (pv 0)) (q_int))) (q_int)) (q_int)) (q_v (pv 0)) (q_int))
    (z_one (s_ret (q_op o_mod (q_op o_fdiv (q_op o_mod (q_op o_mul (q_ix (q_v (pv 0)) (q_int)) (q_int)) (q_int)) (q_int)) (q_v (pv 1)))))))))
theorem ok__law_text {f : Addr} {fd : FuncData} (T : Txt mg) (F__law_take : FD P w K mg base cA 1 "_law_take" 2 m__law_take) (F : Fun K "_law_text" "_law_text" s__law_text f fd) (mgf : mg "_law_text" = some (.ref f)) (kp : PySem.W.keepIn K (.ref f) = true) (bd : Binds K fd ["pot"] []) : FD P w K mg base cA 2 "_law_text" 1 m__law_text :=
  FD.drop (N := 4) (body := b__law_text) (fd_mk (body := b__law_text) (N := ["pot", "text", "k", "at"]) (ps := ["pot"]) (k := 1) F mgf kp bd sc__law_text (fun cdv A outer s H E hr =>
    (z_cons (s_set (ps_set (i := 1) sc__law_text.nd rfl (.inl rfl) (q_str)))
    (z_cons (s_forR (passes_of rfl) rfl (by rfl) T.n_range (a_cons (q_ix (q_lst (a_cons (q_call (takes_of rfl rfl rfl rfl) F__law_take hr (by decide) (by rfl) (a_cons (q_v (pv 0)) (a_cons (q_int) (a_nil)))) (a_cons (q_call (takes_of rfl rfl rfl rfl) F__law_take hr (by decide) (by rfl) (a_cons (q_v (pv 0)) (a_cons (q_int) (a_nil)))) (a_cons (q_op o_add (q_int) (q_call (takes_of rfl rfl rfl rfl) F__law_take hr (by decide) (by rfl) (a_cons (q_v (pv 0)) (a_cons (q_int) (a_nil))))) (a_nil))))) (q_call (takes_of rfl rfl rfl rfl) F__law_take hr (by decide) (by rfl) (a_cons (q_v (pv 0)) (a_cons (q_int) (a_nil))))) a_nil) (pg_name (i := 2) sc__law_text.nd rfl (.inl rfl)) (g_nm) (z_one (s_set (ps_set (i := 1) sc__law_text.nd rfl (.inl rfl) (q_op o_add (q_v (pv 1)) (q_ix (q_str) (q_call (takes_of rfl rfl rfl rfl) F__law_take hr (by decide) (by rfl) (a_cons (q_v (pv 0)) (a_cons (q_int) (a_nil))))))))))
    (z_cons (s_if (k_cmp (o_eq hr.units) (q_call (takes_of rfl rfl rfl rfl) F__law_take hr (by decide) (by rfl) (a_cons (q_v (pv 0)) (a_cons (q_int) (a_nil)))) (q_int)) (z_cons (s_set (ps_set (i := 3) sc__law_text.nd rfl (.inl rfl) (q_call (takes_of rfl rfl rfl rfl) F__law_take hr (by decide) (by rfl) (a_cons (q_v (pv 0)) (a_cons (q_op o_add (q_callB c_len (by rfl) T.n_len (by decide +kernel) (a_cons (q_v (pv 1)) (a_nil))) (q_int)) (a_nil))))))
    (z_one (s_set (ps_set (i := 1) sc__law_text.nd rfl (.inl rfl) (q_op o_add (q_op o_add (q_slH (q_v (pv 1)) (q_v (pv 3))) (q_ix (q_str) (q_call (takes_of rfl rfl rfl rfl) F__law_take hr (by decide) (by rfl) (a_cons (q_v (pv 0)) (a_cons (q_int) (a_nil)))))) (q_slL (q_v (pv 1)) (q_op o_add (q_v (pv 3)) (q_int)))))))) (z_nil))
    (z_one (s_ret (q_v (pv 1)))))))))
theorem ok__law_is_name {f : Addr} {fd : FuncData} (T : Txt mg)  (F : Fun K "_law_is_name" "_law_is_name" s__law_is_name f fd) (mgf : mg "_law_is_name" = some (.ref f)) (kp : PySem.W.keepIn K (.ref f) = true) (bd : Binds K fd ["text"] []) : FD P w K mg base cA 1 "_law_is_name" 1 m__law_is_name :=
  FD.drop (N := 2) (body := b__law_is_name) (fd_mk (body := b__law_is_name) (N := ["text", "sign"]) (ps := ["text"]) (k := 0) F mgf kp bd sc__law_is_name (fun cdv A outer s H E hr =>
    (z_cons (s_if ((w_or (k_cmp o_lt (q_callB c_len (by rfl) T.n_len (by decide +kernel) (a_cons (q_v (pv 0)) (a_nil))) (q_int)) (w_or (k_cmp o_gtI (q_callB c_len (by rfl) T.n_len (by decide +kernel) (a_cons (q_v (pv 0)) (a_nil))) (q_int)) (w_or1 (k_cmp o_nin (q_ix (q_v (pv 0)) (q_int)) (q_str))))).pt) (z_one (s_ret (q_bl))) (z_nil))
    (z_one (s_ret (q_callB (c_all rfl) (by rfl) T.n_all (by decide +kernel) (a_cons (q_lc (own := [("sign", 1)]) (g := gName 1) (g_nm) (by decide) rfl sc__law_is_name.nd (q_v (pv 0)) (blkOk_by (N := ["text", "sign"]) (sc := defScope s__law_is_name) (by decide +kernel)) (fun _ _ _ _ _ => pg_name (i := 1) sc__law_is_name.nd rfl (.inl rfl)) (fun _ _ _ _ _ => x_nil) (fun _ _ _ _ _ => q_cmp o_in (q_v (pv 1)) (q_str))) (a_nil))))))))
theorem ok_law {f : Addr} {fd : FuncData} (T : Txt mg) (F_is_name : FD P w K mg base cA 1 "is_name" 1 m_is_name) (F__law_pot : FD P w K mg base cA 1 "_law_pot" 2 m__law_pot) (F__law_text : FD P w K mg base cA 2 "_law_text" 1 m__law_text) (F__law_is_name : FD P w K mg base cA 1 "_law_is_name" 1 m__law_is_name) (F : Fun K "law" "law" s_law f fd)
  (hm : ∀ ns : List Int, ns.length ≤ 63 → ∃ S, m_law [.scr (ns.map D.int)] [] = .ok (.bl true) S) : FnOk P w K mg base CX0 3 f fd ["script"] (spLaw K 63) :=
  law_mk (n := 63) (cA := cA) (N := ["script", "value", "cell", "pot", "turn", "text", "found"]) (k := 2) (body := b_law) F sc_law (fun cdv A outer s H E hr => (z_cons (s_for PassesOwn.never rfl (q_lst (a_cons (q_int) (a_cons (q_bl) (a_cons (q_non) (a_cons (q_lst (a_cons (q_str) (a_nil))) (a_cons (q_tup (a_cons (q_str) (a_nil))) (a_cons (q_tup (a_nil)) (a_cons (q_str) (a_nil))))))))) (pg_name (i := 1) sc_law.nd rfl (.inl rfl)) (g_nm) (z_one (s_if (k_cmp o_isn (q_call takes0 F_is_name hr (by decide) (by rfl) (a_cons (q_v (pv 1)) (a_nil))) (q_bl)) (z_one (s_ret (q_bl))) (z_nil))))
    (z_cons (s_for PassesOwn.never rfl (q_op o_add (q_lst (a_cons (q_callB c_len (by rfl) T.n_len (by decide +kernel) (a_cons (q_v (pv 0)) (a_nil))) (a_nil))) (q_callT c_list (by rfl) T.n_list (by decide +kernel) (a_cons (q_v (pv 0)) (a_nil)))) (pg_name (i := 2) sc_law.nd rfl (.inl rfl)) (g_nm) (z_gc (z_cons (s_set (ps_set (i := 3) sc_law.nd rfl (.inl rfl) (q_call takes0 F__law_pot hr (by decide) (by rfl) (a_cons (q_v (pv 2)) (a_cons (q_int) (a_nil))))))
    (z_one (s_forR PassesOwn.never rfl (by rfl) T.n_range (a_cons (q_int) a_nil) (pg_name (i := 4) sc_law.nd rfl (.inl rfl)) (g_nm) (z_cons (s_set (ps_set (i := 5) sc_law.nd rfl (.inl rfl) (q_call takes0 F__law_text hr (by decide) (by rfl) (a_cons (q_v (pv 3)) (a_nil)))))
    (z_cons (s_set (ps_set (i := 6) sc_law.nd rfl (.inl rfl) (q_call takes0 F_is_name hr (by decide) (by rfl) (a_cons (q_v (pv 5)) (a_nil)))))
    (z_one (s_if ((w_or (k_not (k_val (q_isi (n := "bool") (by rfl) T.n_isinstance (q_v (pv 6)) (q_ty (by rfl) T.n_bool (by decide +kernel))))) (w_or1 (k_cmp (o_ne hr.units) (q_v (pv 6)) (q_call takes0 F__law_is_name hr (by decide) (by rfl) (a_cons (q_v (pv 5)) (a_nil)))))).pt) (z_one (s_ret (q_bl))) (z_nil))))))))))
    (z_one (s_ret (q_and (q_call takes0 F_is_name hr (by decide) (by rfl) (a_cons (q_str) (a_nil))) (q_and (q_call takes0 F_is_name hr (by decide) (by rfl) (a_cons (q_op o_mul (q_str) (q_int)) (a_nil))) (q_one (q_not (q_call takes0 F_is_name hr (by decide) (by rfl) (a_cons (q_op o_mul (q_str) (q_int)) (a_nil)))))))))))) hm
end

end Law

namespace Law
open PySem PySem.Spec PyProof.Rows L2 DL
theorem take_ok (a b n : Int) (hn : 0 < n) (hn2 : n < 1073741824) (ha : 0 ≤ a) (hb : 0 ≤ b) (hb2 : b < 2147483648) : ∃ d a' b' : Int, m__law_take [.obj 0, .int n] [.lst [.int a, .int b]] = .ok (.int d) [.lst [.int a', .int b']] ∧ 0 ≤ d ∧ d < n ∧ 0 ≤ a' ∧ 0 ≤ b' ∧ b' < 2147483648 := by
  by_cases h : 0 < a
  · refine ⟨a % n, a / n, b, ?_, Int.emod_nonneg _ (by omega), Int.emod_lt_of_pos _ hn, Int.ediv_nonneg ha (by omega), hb, hb2⟩
    simp [m__law_take, fnD_ap, b__law_take, gIx, view, h, gMod_int hn, gFdiv_int hn hn2, putI, ixN]
  · have h1 : -18446744073709551616 < b ∧ b < 18446744073709551616 := by omega
    have h2 := Int.emod_nonneg (b * b + 104729) (show (2147483629 : Int) ≠ 0 by decide)
    have h3 := Int.emod_lt_of_pos (b * b + 104729) (show (0 : Int) < 2147483629 by decide)
    refine ⟨(b * b + 104729) % 2147483629 * 48271 % 2147483647 / 7 % n, a, (b * b + 104729) % 2147483629, ?_, Int.emod_nonneg _ (by omega), Int.emod_lt_of_pos _ hn, ha, h2, by omega⟩
    simp [m__law_take, fnD_ap, b__law_take, gIx, view, h, gMod_int hn, gMod_int, gFdiv_int, putI, ixN, gMul_int (.inl h1), gMul_int]

/-- is it a name? -/
def nameB (t : Str) : Bool := if 1 ≤ t.length ∧ t.length ≤ 24 then decide (t.cps.toList.getD 0 0 ∈ ("abcdefghijklmnopqrstuvwxyz" : Str).cps.toList) && t.cps.toList.all fun c => decide (c ∈ ("abcdefghijklmnopqrstuvwxyz0123456789./" : Str).cps.toList) else false
theorem is_name_ok (t : Str) (h : t.length ≤ 16777216) : m_is_name [.str t] [] = .ok (.bl (nameB t)) [] := by
  have hlc := eLc_signs (it := eV 0) (e := [some (.str t), none]) (S := []) (el := e2 gIn (eV 1) (eC (.str "abcdefghijklmnopqrstuvwxyz0123456789./"))) (own := [1]) (i := 1) (t := t) (f := fun c => .bl (decide (c ∈ ("abcdefghijklmnopqrstuvwxyz0123456789./" : Str).cps.toList))) rfl (fun k hk => by simp [sin_one, wipeE]) h
  have hm := bls_map (f := fun c => decide (c ∈ ("abcdefghijklmnopqrstuvwxyz0123456789./" : Str).cps.toList)) t.cps.toList
  unfold nameB
  by_cases h1 : 1 ≤ t.length
  · have h1i : (1 : Int) ≤ t.length := by omega
    by_cases h2 : t.length ≤ 24
    · have h2i : (t.length : Int) ≤ 24 := by omega
      obtain ⟨c, r, e⟩ : ∃ c r, t.cps.toList = c :: r := by
        rw [str_len] at h1
        cases q : t.cps.toList with
        | nil => rw [q] at h1; simp at h1
        | cons c r => exact ⟨c, r, rfl⟩
      have hx : ∀ S, gIx S (.str t) (.int 0) = some (.str ⟨#[c]⟩) := fun S => gIx_sign h e
      have hg : t.cps.toList.getD 0 0 = c := by rw [e]; rfl
      rw [if_pos ⟨h1, h2⟩, hg]
      by_cases h3 : c ∈ ("abcdefghijklmnopqrstuvwxyz" : Str).cps.toList
      · simp only [m_is_name, fnD_ap, fnK_ap, b_is_name, sSeq_ap, sIf_ap]
        simp only [gIsi, tyN, isi, gLen_str h, h1i, h2i, hx, sin_one, h3, hlc, hm]
        simp [gIsi, tyN, isi, gLen_str h, h1i, h2i, hx, sin_one, h3, hlc, DL.allB]
      · simp [m_is_name, fnD_ap, b_is_name, gIsi, tyN, isi, gLen_str h, h1i, h2i, hx, sin_one, h3]
    · have h2i : ¬ (t.length : Int) ≤ 24 := by omega
      simp [m_is_name, fnD_ap, b_is_name, gIsi, tyN, isi, gLen_str h, h1i, h2i, h1, h2]
  · have h1i : ¬ (1 : Int) ≤ t.length := by omega
    simp [m_is_name, fnD_ap, b_is_name, gIsi, tyN, isi, gLen_str h, h1i, h1]
theorem law_is_name_ok (t : Str) (h : t.length ≤ 16777216) : m__law_is_name [.str t] [] = .ok (.bl (nameB t)) [] := by
  have hlc := eLc_signs (it := eV 0) (e := [some (.str t), none]) (S := []) (el := e2 gIn (eV 1) (eC (.str "abcdefghijklmnopqrstuvwxyz0123456789./"))) (own := [1]) (i := 1) (t := t) (f := fun c => .bl (decide (c ∈ ("abcdefghijklmnopqrstuvwxyz0123456789./" : Str).cps.toList))) rfl (fun k hk => by simp [sin_one, wipeE]) h
  have hm := bls_map (f := fun c => decide (c ∈ ("abcdefghijklmnopqrstuvwxyz0123456789./" : Str).cps.toList)) t.cps.toList
  unfold nameB
  by_cases h1 : 1 ≤ t.length
  · have h1i : ¬ (t.length : Int) < 1 := by omega
    by_cases h2 : t.length ≤ 24
    · have h2i : ¬ 24 < (t.length : Int) := by omega
      obtain ⟨c, r, e⟩ : ∃ c r, t.cps.toList = c :: r := by
        rw [str_len] at h1
        cases q : t.cps.toList with
        | nil => rw [q] at h1; simp at h1
        | cons c r => exact ⟨c, r, rfl⟩
      have hx : ∀ S, gIx S (.str t) (.int 0) = some (.str ⟨#[c]⟩) := fun S => gIx_sign h e
      have hg : t.cps.toList.getD 0 0 = c := by rw [e]; rfl
      rw [if_pos ⟨h1, h2⟩, hg]
      by_cases h3 : c ∈ ("abcdefghijklmnopqrstuvwxyz" : Str).cps.toList
      · simp only [m__law_is_name, fnD_ap, fnK_ap, b__law_is_name, sSeq_ap, sIf_ap]
        simp only [gIsi, tyN, isi, gLen_str h, h1i, h2i, hx, sin_one, h3, hlc, hm]
        simp [gIsi, tyN, isi, gLen_str h, h1i, h2i, hx, sin_one, h3, hlc, DL.allB]
      · simp [m__law_is_name, fnD_ap, b__law_is_name, gIsi, tyN, isi, gLen_str h, h1i, h2i, hx, sin_one, h3]
    · have h2i : 24 < (t.length : Int) := by omega
      simp [m__law_is_name, fnD_ap, b__law_is_name, gIsi, tyN, isi, gLen_str h, h1i, h2i, h1, h2]
  · have h1i : (t.length : Int) < 1 := by omega
    simp [m__law_is_name, fnD_ap, b__law_is_name, gIsi, tyN, isi, gLen_str h, h1i, h1]

/-- a pot of digits -/
structure Pot (a b : Int) : Prop where
  h1 : 0 ≤ a
  h2 : 0 ≤ b
  h3 : b < 2147483648
theorem take_c {a b n : Int} (p : Pot a b) (hn : 0 < n) (hn2 : n < 1073741824) : ∃ d a' b' : Int, callS m__law_take [.obj 0, .int n] [.lst [.int a, .int b]] = .ok (.int d) [.lst [.int a', .int b']] ∧ 0 ≤ d ∧ d < n ∧ Pot a' b' := by
  obtain ⟨d, a', b', e, h1, h2, h3, h4, h5⟩ := take_ok a b n hn hn2 p.h1 p.h2 p.h3
  refine ⟨d, a', b', ?_, h1, h2, h3, h4, h5⟩
  simp [callS, tops, clo, kids, callJ, flatO, inj1, goodC, okC, inC, mapO, mapC, e, back, outN]
theorem text_ok {a b : Int} (p : Pot a b) : ∃ (t : Str) (a' b' : Int), m__law_text [.obj 0] [.lst [.int a, .int b]] = .ok (.str t) [.lst [.int a', .int b']] ∧ t.length ≤ 1000 ∧ Pot a' b' := by
  obtain ⟨d1, a1, b1, e1, l1, u1, p1⟩ := take_c p (n := 4) (by decide) (by decide)
  obtain ⟨d2, a2, b2, e2, l2, u2, p2⟩ := take_c p1 (n := 28) (by decide) (by decide)
  obtain ⟨d3, a3, b3, e3, l3, u3, p3⟩ := take_c p2 (n := 6) (by decide) (by decide)
  obtain ⟨d4, a4, b4, e4, l4, u4, p4⟩ := take_c p3 (n := 3) (by decide) (by decide)
  obtain ⟨c, hc, hc0, hc1⟩ : ∃ c : Int, gIx [.lst [.int a4, .int b4]] (.lst [.int d1, .int d2, .int (22 + d3)]) (.int d4) = some (.int c) ∧ 0 ≤ c ∧ c < 30 := by
    have : d4 = 0 ∨ d4 = 1 ∨ d4 = 2 := by omega
    rcases this with rfl | rfl | rfl
    · exact ⟨d1, by simp, by omega, by omega⟩
    · exact ⟨d2, by simp, by omega, by omega⟩
    · exact ⟨22 + d3, by simp, by omega, by omega⟩
  have hloop := forD_inv (C := fun _ => True) (tg := mNm 2) (body := sSet 1 (DL.e2 gAdd (eV 1) (DL.e2 gIx (eC (.str "abcmyz0189./")) (eCall' 2 m__law_take (aC (eV 0) (aC (eC (.int 12)) (aN)))))))
    (fun i e S => ∃ (t : Str) (x : Option D) (a b : Int), e = [some (.obj 0), some (.str t), x, none] ∧ S = [.lst [.int a, .int b]] ∧ t.length = i ∧ Pot a b) (rng 0 c.toNat) 0 [some (.obj 0), some (.str ""), none, none] [.lst [.int a4, .int b4]]
    (fun i d e S hd ⟨t, x, a, b, he, hS, ht, hp⟩ => by
      subst he hS
      obtain ⟨d5, a5, b5, e5, l5, u5, p5⟩ := take_c hp (n := 12) (by decide) (by decide)
      have hi : i < (rng 0 c.toNat).length := (List.getElem?_eq_some_iff.mp hd).1
      simp [rng] at hi
      obtain ⟨k, hk⟩ : ∃ k, gIx [.lst [.int a5, .int b5]] (.str "abcmyz0189./") (.int d5) = some (.str ⟨#[k]⟩) := by
        rw [gIx_str (by decide)]
        have : d5 = 0 ∨ d5 = 1 ∨ d5 = 2 ∨ d5 = 3 ∨ d5 = 4 ∨ d5 = 5 ∨ d5 = 6 ∨ d5 = 7 ∨ d5 = 8 ∨ d5 = 9 ∨ d5 = 10 ∨ d5 = 11 := by omega
        rcases this with rfl | rfl | rfl | rfl | rfl | rfl | rfl | rfl | rfl | rfl | rfl | rfl <;> exact ⟨_, rfl⟩
      have hs : t.length + (Str.mk #[k]).length ≤ 16777216 := by rw [sign_len]; omega
      refine ⟨True.intro, _, rfl, _, _, .inl (by simp [e5, hk, gAdd_str hs]; exact ⟨rfl, rfl⟩), _, _, _, _, rfl, rfl, ?_, p5⟩
      rw [app_len, sign_len, ht])
    (fun _ _ _ => True.intro) ⟨"", none, a4, b4, rfl, rfl, rfl, p4⟩
  obtain ⟨e5, S5, e6, t, x, a5, b5, rfl, rfl, ht, p5⟩ := hloop
  rw [rng_len] at ht
  have hn : -4611686018427387904 ≤ c ∧ c < 4611686018427387904 := by omega
  obtain ⟨d6, a6, b6, e7, l6, u6, p6⟩ := take_c p5 (n := 2) (by decide) (by decide)
  by_cases h : d6 = 1
  · obtain ⟨d7, a7, b7, e8, l7, u7, p7⟩ := take_c p6 (n := (t.length : Int) + 1) (by omega) (by omega)
    obtain ⟨d8, a8, b8, e9, l8, u8, p8⟩ := take_c p7 (n := 10) (by decide) (by decide)
    obtain ⟨k, hk⟩ : ∃ k, gIx [.lst [.int a8, .int b8]] (.str "AZ _-\t{`~a") (.int d8) = some (.str ⟨#[k]⟩) := by
      rw [gIx_str (by decide)]
      have : d8 = 0 ∨ d8 = 1 ∨ d8 = 2 ∨ d8 = 3 ∨ d8 = 4 ∨ d8 = 5 ∨ d8 = 6 ∨ d8 = 7 ∨ d8 = 8 ∨ d8 = 9 := by omega
      rcases this with rfl | rfl | rfl | rfl | rfl | rfl | rfl | rfl | rfl | rfl <;> exact ⟨_, rfl⟩
    have hz : t.length ≤ 16777216 := by omega
    have c1 := cutS_length t none (some d7)
    have c2 := cutS_length t (some (d7 + 1)) none
    have g1 : ∀ S, gAdd S (.str (cutS t none (some d7))) (.str ⟨#[k]⟩) = some (.str (cutS t none (some d7) ++ ⟨#[k]⟩)) := fun S => gAdd_str (by rw [sign_len]; omega)
    have g2 : ∀ S, gAdd S (.str (cutS t none (some d7) ++ ⟨#[k]⟩)) (.str (cutS t (some (d7 + 1)) none)) = some (.str (cutS t none (some d7) ++ ⟨#[k]⟩ ++ cutS t (some (d7 + 1)) none)) := fun S => gAdd_str (by rw [app_len, sign_len]; omega)
    refine ⟨cutS t none (some d7) ++ ⟨#[k]⟩ ++ cutS t (some (d7 + 1)) none, a8, b8, ?_, by rw [app_len, app_len, sign_len]; omega, p8⟩
    simp [m__law_text, fnD_ap, b__law_text, sForR_ap, e1, e2, e3, e4, hc, hn, e6, e7, h, gLen_str hz, e8, gSl_str hz, e9, hk, g1, g2]
  · refine ⟨t, a6, b6, ?_, by omega, p6⟩
    simp [m__law_text, fnD_ap, b__law_text, sForR_ap, e1, e2, e3, e4, hc, hn, e6, e7, h]
theorem pot_ok (cell : Int) : ∃ a b : Int, callS m__law_pot [.int cell, .int 2] [] = .ok (.obj 0) [.lst [.int a, .int b]] ∧ Pot a b := by
  have hp : (10 : Int) ^ (18 : Int).toNat = 1000000000000000000 := by decide
  by_cases h : 1000000000000000000 ≤ (if cell < 0 then -cell else cell)
  · refine ⟨if cell < 0 then -cell else cell, 2, ?_, by split <;> omega, by decide, by decide⟩
    rw [call_none (by rfl)]
    simp [m__law_pot, b__law_pot, gAbs, gPow, hp, h, flatO, okC, outN, mapO, back, mapC]
  · have h2 := Int.emod_nonneg ((cell % 2147483647 + 7919 * 2 + 11) * 48271) (show (2147483647 : Int) ≠ 0 by decide)
    have h3 := Int.emod_lt_of_pos ((cell % 2147483647 + 7919 * 2 + 11) * 48271) (show (0 : Int) < 2147483647 by decide)
    refine ⟨0, (cell % 2147483647 + 7919 * 2 + 11) * 48271 % 2147483647, ?_, by decide, h2, by omega⟩
    rw [call_none (by rfl)]
    simp [m__law_pot, b__law_pot, gAbs, gPow, hp, h, flatO, okC, outN, mapO, back, mapC, gMod_int, gMul_int]
theorem is_name_c (t : Str) (S : Sto) (h : t.length ≤ 16777216) : callS m_is_name [.str t] S = .ok (.bl (nameB t)) S := by
  rw [call_none (by rfl), is_name_ok t h]
  simp [flatO, mapO]
theorem law_is_name_c (t : Str) (S : Sto) (h : t.length ≤ 16777216) : callS m__law_is_name [.str t] S = .ok (.bl (nameB t)) S := by
  rw [call_none (by rfl), law_is_name_ok t h]
  simp [flatO, mapO]
theorem text_c {a b : Int} (p : Pot a b) : ∃ (t : Str) (a' b' : Int), callS m__law_text [.obj 0] [.lst [.int a, .int b]] = .ok (.str t) [.lst [.int a', .int b']] ∧ t.length ≤ 1000 ∧ Pot a' b' := by
  obtain ⟨t, a', b', e, h1, h2⟩ := text_ok p
  refine ⟨t, a', b', ?_, h1, h2⟩
  simp [callS, tops, clo, kids, callJ, flatO, inj1, goodC, okC, inC, mapO, mapC, e, back, outN]
theorem is_name_no (d : D) (t : String) (h : tyN [] d = some t) (hs : (t == "str") = false) : m_is_name [d] [] = .ok (.bl false) [] := by
  have hi : isi "str" t = false := by simp [isi, hs]
  simp [m_is_name, fnD_ap, b_is_name, gIsi, h, hi]
theorem law_true (ns : List Int) (hns : ns.length ≤ 63) : ∃ S, m_law [.scr (ns.map D.int)] [] = .ok (.bl true) S := by
  have none_c : ∀ d ∈ ([.int 7, .bl true, .non, .lst [.str "a"], .tup [.str "a"], .tup [], .str ""] : List D), callS m_is_name [d] [] = .ok (.bl false) [] ∧ low 0 d = true := by
    intro d hd
    simp only [List.mem_cons, List.not_mem_nil, or_false] at hd
    rcases hd with rfl | rfl | rfl | rfl | rfl | rfl | rfl
    · rw [call_none (by rfl), is_name_no _ "int" rfl rfl]; simp [flatO, mapO]
    · rw [call_none (by rfl), is_name_no _ "bool" rfl rfl]; simp [flatO, mapO]
    · rw [call_none (by rfl), is_name_no _ "NoneType" rfl rfl]; simp [flatO, mapO]
    · rw [call_none (by rfl), is_name_no _ "list" rfl rfl]; simp [flatO, mapO]
    · rw [call_none (by rfl), is_name_no _ "tuple" rfl rfl]; simp [flatO, mapO]
    · rw [call_none (by rfl), is_name_no _ "tuple" rfl rfl]; simp [flatO, mapO]
    · rw [is_name_c _ _ (by decide)]; simp [nameB]; decide
  have loop1 : ∃ e' S', forD (fun S' => True) (mNm 1) (sIf (tOf (DL.e2 gIsn (eCall' 1 m_is_name (aC (eV 1) (aN))) (eC (.bl false)))) (sRet (eC (.bl false))) (sPass)) [.int 7, .bl true, .non, .lst [.str "a"], .tup [.str "a"], .tup [], .str ""] [some (.scr (ns.map D.int)), none, none, none, none, none, none] [] = .nx e' S' ∧ _ :=
    forD_inv (fun i e S => ∃ x, e = [some (.scr (ns.map D.int)), x, none, none, none, none, none] ∧ S = [] ∧ lowE 0 e = true) _ 0 _ _ (fun i d e S hd ⟨x, he, hS, hl⟩ => by
      subst he hS
      obtain ⟨hc, hlow⟩ := none_c d (List.mem_of_getElem? hd)
      refine ⟨True.intro, _, rfl, _, _, .inl (by simp [hc, gIsn, dis]; first | exact ⟨rfl, rfl⟩ | exact rfl), _, rfl, rfl, by simpa [hlow] using hl⟩) (fun _ _ _ => True.intro) ⟨none, rfl, rfl, by simp⟩
  obtain ⟨e1, S1, h1, x1, rfl, rfl, hl1⟩ := loop1
  have turn : ∀ (k : Nat) (e : En) (S : Sto), (∃ x1 x2 x4 x5 x6, ∃ cell a b : Int, e = [some (.scr (ns.map D.int)), x1, x2, some (.obj 0), x4, x5, x6] ∧ S = [.lst [.int a, .int b]] ∧ lowE 0 [x1, x2, x4, x5, x6] = true ∧ Pot a b) →
      ∃ e' S', forD (fun _ => True) (mNm 4) (sSeq (sSet 5 (eCall' 1 m__law_text (aC (eV 3) (aN)))) (sSeq (sSet 6 (eCall' 1 m_is_name (aC (eV 5) (aN)))) (sIf (tO (tNo (tOf (DL.e1 (gIsi "bool") (eV 6)))) (tOf (DL.e2 gNe (eV 6) (eCall' 1 m__law_is_name (aC (eV 5) (aN)))))) (sRet (eC (.bl false))) (sPass)))) (rng 0 3) e S = .nx e' S' ∧
        ∃ x1 x2 x4 x5 x6, ∃ cell a b : Int, e' = [some (.scr (ns.map D.int)), x1, x2, some (.obj 0), x4, x5, x6] ∧ S' = [.lst [.int a, .int b]] ∧ lowE 0 [x1, x2, x4, x5, x6] = true ∧ Pot a b := fun k e S h0 => by
    obtain ⟨e', S', h1, h2⟩ := forD_inv (C := fun _ => True) (tg := mNm 4) (body := sSeq (sSet 5 (eCall' 1 m__law_text (aC (eV 3) (aN)))) (sSeq (sSet 6 (eCall' 1 m_is_name (aC (eV 5) (aN)))) (sIf (tO (tNo (tOf (DL.e1 (gIsi "bool") (eV 6)))) (tOf (DL.e2 gNe (eV 6) (eCall' 1 m__law_is_name (aC (eV 5) (aN)))))) (sRet (eC (.bl false))) (sPass))))
      (fun _ e S => ∃ x1 x2 x4 x5 x6, ∃ cell a b : Int, e = [some (.scr (ns.map D.int)), x1, x2, some (.obj 0), x4, x5, x6] ∧ S = [.lst [.int a, .int b]] ∧ lowE 0 [x1, x2, x4, x5, x6] = true ∧ Pot a b) (rng 0 3) 0 e S
      (fun i d e S hd ⟨x1, x2, x4, x5, x6, cell, a, b, he, hS, hl, hp⟩ => by
        subst he hS
        obtain ⟨t, a', b', ht, hlen, hp'⟩ := text_c hp
        have hd' : low 0 d = true := by
          obtain ⟨z, _, hz⟩ := List.mem_map.mp (List.mem_of_getElem? hd)
          subst hz; rfl
        refine ⟨True.intro, _, rfl, [some (.scr (ns.map D.int)), x1, x2, some (.obj 0), some d, some (.str t), some (.bl (nameB t))], [.lst [.int a', .int b']], .inl (by simp [ht, is_name_c t _ (by omega : t.length ≤ 16777216), law_is_name_c t _ (by omega : t.length ≤ 16777216), gIsi, tyN, isi]), _, _, _, _, _, cell, a', b', rfl, rfl, ?_, hp'⟩
        simp only [lowE, List.all_cons, List.all_nil, Bool.and_true, Bool.and_eq_true] at hl ⊢
        exact ⟨hl.1, hl.2.1, hd', rfl, rfl⟩)
      (fun _ _ _ => True.intro) h0
    exact ⟨e', S', h1, h2⟩
  have loop2 := forD_inv (C := fun _ => True) (tg := mNm 2) (body := sGC [3] (sSeq (sSet 3 (eCall' 2 m__law_pot (aC (eV 2) (aC (eC (.int 2)) (aN))))) (sForR (eC (.int 3)) (mNm 4) (sSeq (sSet 5 (eCall' 1 m__law_text (aC (eV 3) (aN)))) (sSeq (sSet 6 (eCall' 1 m_is_name (aC (eV 5) (aN)))) (sIf (tO (tNo (tOf (DL.e1 (gIsi "bool") (eV 6)))) (tOf (DL.e2 gNe (eV 6) (eCall' 1 m__law_is_name (aC (eV 5) (aN)))))) (sRet (eC (.bl false))) (sPass)))))))
    (fun _ e S => ∃ x1 x2 x4 x5 x6, e = [some (.scr (ns.map D.int)), x1, x2, none, x4, x5, x6] ∧ S = [] ∧ lowE 0 [x1, x2, x4, x5, x6] = true) (D.int (ns.length : Int) :: ns.map D.int) 0 [some (.scr (ns.map D.int)), x1, none, none, none, none, none] []
    (fun i d e S hd ⟨x1, x2, x4, x5, x6, he, hS, hl⟩ => by
      subst he hS
      obtain ⟨cell, rfl⟩ : ∃ cell : Int, d = .int cell := by
        have := List.mem_of_getElem? hd
        simp only [List.mem_cons, List.mem_map] at this
        rcases this with rfl | ⟨z, _, rfl⟩
        · exact ⟨_, rfl⟩
        · exact ⟨_, rfl⟩
      obtain ⟨a, b, hpot, hp⟩ := pot_ok cell
      obtain ⟨e', S', ht, y1, y2, y4, y5, y6, _, a', b', rfl, rfl, hl', hp'⟩ := turn 0 [some (.scr (ns.map D.int)), x1, some (.int cell), some (.obj 0), x4, x5, x6] [.lst [.int a, .int b]] ⟨x1, _, x4, x5, x6, 0, a, b, rfl, rfl, by
        simp only [lowE, List.all_cons, List.all_nil, Bool.and_true, Bool.and_eq_true] at hl ⊢
        exact ⟨hl.1, rfl, hl.2.2⟩, hp⟩
      refine ⟨True.intro, _, rfl, [some (.scr (ns.map D.int)), y1, y2, none, y4, y5, y6], [], .inl ?_, _, _, _, _, _, rfl, rfl, hl'⟩
      have hl2 : lowE 0 [some (.scr (ns.map D.int)), y1, y2, none, y4, y5, y6] = true := by
        simp only [lowE, List.all_cons, List.all_nil, Bool.and_true, Bool.and_eq_true] at hl' ⊢
        exact ⟨lows_ints ns, hl'.1, hl'.2.1, trivial, hl'.2.2⟩
      simp [sGC_ap, hpot, sForR_ap, ht, gcS, wipeE, hl2])
    (fun _ _ _ => True.intro) ⟨x1, none, none, none, none, rfl, rfl, by
      simpa [lowE] using hl1⟩
  obtain ⟨e2, S2, h2, y1, y2, y4, y5, y6, rfl, rfl, hl2⟩ := loop2
  have hg : ∀ S, gAdd S (.lst [.int (ns.length : Int)]) (.lst (ns.map D.int)) = some (.lst (.int (ns.length : Int) :: ns.map D.int)) := fun S => by
    simp [gAdd, noS]; omega
  have n1 : callS m_is_name [.str "a"] [] = .ok (.bl true) [] := by rw [is_name_c _ _ (by decide)]; rfl
  have n2 : callS m_is_name [.str (srep "b" 24)] [] = .ok (.bl true) [] := by rw [is_name_c _ _ (by decide)]; rfl
  have n3 : callS m_is_name [.str (srep "b" 25)] [] = .ok (.bl false) [] := by rw [is_name_c _ _ (by decide)]; rfl
  refine ⟨[], ?_⟩
  have m1 : ∀ S, gMul S (.str "b") (.int 24) = some (.str (srep "b" 24)) := fun S => gMul_str (by decide)
  have m2 : ∀ S, gMul S (.str "b") (.int 25) = some (.str (srep "b" 25)) := fun S => gMul_str (by decide)
  simp [m_law, b_law, sFor_ap, h1, gList, hg, h2, n1, n2, n3, m1, m2]
end Law

namespace Law
open PySem PySem.Spec PyProof.Rows L2 DL
theorem all_mk {w : World} {K : PySem.W.Frag} {h : Heap} {mg : Str → Option Value} {fa f_is_name f__law_pot f__law_take f__law_text f__law_is_name f_law : Addr} (X : K.In h) (G : h.Ns mainGlobals mg) (hfa : mg "law" = some (.ref fa))
    {od_is_name an_is_name : Option Addr} {sl_is_name : Array (Option Value)} {oc_is_name kV_is_name dc_is_name pm_is_name cd_is_name ct_is_name : Value} {od__law_pot an__law_pot : Option Addr} {sl__law_pot : Array (Option Value)} {oc__law_pot kV__law_pot dc__law_pot pm__law_pot cd__law_pot ct__law_pot : Value} {od__law_take an__law_take : Option Addr} {sl__law_take : Array (Option Value)} {oc__law_take kV__law_take dc__law_take pm__law_take cd__law_take ct__law_take : Value} {od__law_text an__law_text : Option Addr} {sl__law_text : Array (Option Value)} {oc__law_text kV__law_text dc__law_text pm__law_text cd__law_text ct__law_text : Value} {od__law_is_name an__law_is_name : Option Addr} {sl__law_is_name : Array (Option Value)} {oc__law_is_name kV__law_is_name dc__law_is_name pm__law_is_name cd__law_is_name ct__law_is_name : Value} {od_law an_law : Option Addr} {sl_law : Array (Option Value)} {oc_law kV_law dc_law pm_law cd_law ct_law : Value}
    (a_is_name : PySem.W.nsIn K mainGlobals "is_name" = some (some (.ref f_is_name))) (l_is_name : K.lookup f_is_name = some ⟨oc_is_name, od_is_name, .func (PySem.W.fnOf "is_name" "is_name" (defArgs s_is_name) (defBody s_is_name) (defScope s_is_name) .none kV_is_name dc_is_name pm_is_name an_is_name cd_is_name ct_is_name), sl_is_name⟩) (c_is_name : PySem.W.codeIn K cd_is_name "is_name" = true) (k_is_name : PySem.W.keepIn K (.ref f_is_name) = true)
    (a__law_pot : PySem.W.nsIn K mainGlobals "_law_pot" = some (some (.ref f__law_pot))) (l__law_pot : K.lookup f__law_pot = some ⟨oc__law_pot, od__law_pot, .func (PySem.W.fnOf "_law_pot" "_law_pot" (defArgs s__law_pot) (defBody s__law_pot) (defScope s__law_pot) .none kV__law_pot dc__law_pot pm__law_pot an__law_pot cd__law_pot ct__law_pot), sl__law_pot⟩) (c__law_pot : PySem.W.codeIn K cd__law_pot "_law_pot" = true) (k__law_pot : PySem.W.keepIn K (.ref f__law_pot) = true)
    (a__law_take : PySem.W.nsIn K mainGlobals "_law_take" = some (some (.ref f__law_take))) (l__law_take : K.lookup f__law_take = some ⟨oc__law_take, od__law_take, .func (PySem.W.fnOf "_law_take" "_law_take" (defArgs s__law_take) (defBody s__law_take) (defScope s__law_take) .none kV__law_take dc__law_take pm__law_take an__law_take cd__law_take ct__law_take), sl__law_take⟩) (c__law_take : PySem.W.codeIn K cd__law_take "_law_take" = true) (k__law_take : PySem.W.keepIn K (.ref f__law_take) = true)
    (a__law_text : PySem.W.nsIn K mainGlobals "_law_text" = some (some (.ref f__law_text))) (l__law_text : K.lookup f__law_text = some ⟨oc__law_text, od__law_text, .func (PySem.W.fnOf "_law_text" "_law_text" (defArgs s__law_text) (defBody s__law_text) (defScope s__law_text) .none kV__law_text dc__law_text pm__law_text an__law_text cd__law_text ct__law_text), sl__law_text⟩) (c__law_text : PySem.W.codeIn K cd__law_text "_law_text" = true) (k__law_text : PySem.W.keepIn K (.ref f__law_text) = true)
    (a__law_is_name : PySem.W.nsIn K mainGlobals "_law_is_name" = some (some (.ref f__law_is_name))) (l__law_is_name : K.lookup f__law_is_name = some ⟨oc__law_is_name, od__law_is_name, .func (PySem.W.fnOf "_law_is_name" "_law_is_name" (defArgs s__law_is_name) (defBody s__law_is_name) (defScope s__law_is_name) .none kV__law_is_name dc__law_is_name pm__law_is_name an__law_is_name cd__law_is_name ct__law_is_name), sl__law_is_name⟩) (c__law_is_name : PySem.W.codeIn K cd__law_is_name "_law_is_name" = true) (k__law_is_name : PySem.W.keepIn K (.ref f__law_is_name) = true)
    (a_law : PySem.W.nsIn K mainGlobals "law" = some (some (.ref f_law))) (l_law : K.lookup f_law = some ⟨oc_law, od_law, .func (PySem.W.fnOf "law" "law" (defArgs s_law) (defBody s_law) (defScope s_law) .none kV_law dc_law pm_law an_law cd_law ct_law), sl_law⟩) (c_law : PySem.W.codeIn K cd_law "law" = true) (k_law : PySem.W.keepIn K (.ref f_law) = true)
    (z_abs : PySem.W.nsIn K mainGlobals "abs" = some none)
    (z_all : PySem.W.nsIn K mainGlobals "all" = some none)
    (z_bool : PySem.W.nsIn K mainGlobals "bool" = some none)
    (z_isinstance : PySem.W.nsIn K mainGlobals "isinstance" = some none)
    (z_len : PySem.W.nsIn K mainGlobals "len" = some none)
    (z_list : PySem.W.nsIn K mainGlobals "list" = some none)
    (z_range : PySem.W.nsIn K mainGlobals "range" = some none)
    (z_str : PySem.W.nsIn K mainGlobals "str" = some none)
    {t_LETTERS : Tok} (y_LETTERS : PySem.W.nsIn K mainGlobals "LETTERS" = some (some (.str "abcdefghijklmnopqrstuvwxyz" t_LETTERS)))
    {t_MOST_NAME : Tok} (y_MOST_NAME : PySem.W.nsIn K mainGlobals "MOST_NAME" = some (some (.int 24 t_MOST_NAME)))
    {t_NAME_SIGNS : Tok} (y_NAME_SIGNS : PySem.W.nsIn K mainGlobals "NAME_SIGNS" = some (some (.str "abcdefghijklmnopqrstuvwxyz0123456789./" t_NAME_SIGNS)))
    (hm : ∀ ns : List Int, ns.length ≤ 63 → ∃ S, m_law [.scr (ns.map D.int)] [] = .ok (.bl true) S) :
    ∃ fd : FuncData, (∀ (s : Shared) (v : Value), BindsTo s fd ⟨[v], []⟩ [("script", v)]) ∧ ∀ base : Heap, K.In base → base.Ns mainGlobals mg → FnOk PySem.Challenge.pw_askwright_k02_what_is_a_name w K mg base CX0 3 fa fd ["script"] (spLaw K 63) := by
  have e := hfa.symm.trans (PySem.W.mg_of X G a_law)
  cases e
  have T : Txt mg := { n_abs := PySem.W.mg_none_of X G z_abs, n_all := PySem.W.mg_none_of X G z_all, n_bool := PySem.W.mg_none_of X G z_bool, n_isinstance := PySem.W.mg_none_of X G z_isinstance, n_len := PySem.W.mg_none_of X G z_len, n_list := PySem.W.mg_none_of X G z_list, n_range := PySem.W.mg_none_of X G z_range, n_str := PySem.W.mg_none_of X G z_str, g_LETTERS := ⟨_, PySem.W.mg_of X G y_LETTERS⟩, g_MOST_NAME := ⟨_, PySem.W.mg_of X G y_MOST_NAME⟩, g_NAME_SIGNS := ⟨_, PySem.W.mg_of X G y_NAME_SIGNS⟩ }
  have U_is_name := fun_mk (st := s_is_name) l_is_name c_is_name k_is_name
  have U__law_pot := fun_mk (st := s__law_pot) l__law_pot c__law_pot k__law_pot
  have U__law_take := fun_mk (st := s__law_take) l__law_take c__law_take k__law_take
  have U__law_text := fun_mk (st := s__law_text) l__law_text c__law_text k__law_text
  have U__law_is_name := fun_mk (st := s__law_is_name) l__law_is_name c__law_is_name k__law_is_name
  have U_law := fun_mk (st := s_law) l_law c_law k_law
  refine ⟨PySem.W.fnOf "law" "law" (defArgs s_law) (defBody s_law) (defScope s_law) .none kV_law dc_law pm_law an_law cd_law ct_law, fun s v => .of_eq rfl, fun base _ _ => ?_⟩
  have F_is_name : FD PySem.Challenge.pw_askwright_k02_what_is_a_name w K mg base (fun _ => 0) 1 "is_name" 1 m_is_name := ok_is_name T  U_is_name (PySem.W.mg_of X G a_is_name) k_is_name (U_is_name.binds (ps := ["value"]) fun _ _ _ _ _ _ us hl => match us, hl with | [_], _ => rfl)
  have F__law_pot : FD PySem.Challenge.pw_askwright_k02_what_is_a_name w K mg base (fun _ => 0) 1 "_law_pot" 2 m__law_pot := ok__law_pot T  U__law_pot (PySem.W.mg_of X G a__law_pot) k__law_pot (U__law_pot.binds (ps := ["cell", "salt"]) fun _ _ _ _ _ _ us hl => match us, hl with | [_, _], _ => rfl)
  have F__law_take : FD PySem.Challenge.pw_askwright_k02_what_is_a_name w K mg base (fun _ => 0) 1 "_law_take" 2 m__law_take := ok__law_take T  U__law_take (PySem.W.mg_of X G a__law_take) k__law_take (U__law_take.binds (ps := ["pot", "many"]) fun _ _ _ _ _ _ us hl => match us, hl with | [_, _], _ => rfl)
  have F__law_text : FD PySem.Challenge.pw_askwright_k02_what_is_a_name w K mg base (fun _ => 0) 2 "_law_text" 1 m__law_text := ok__law_text T F__law_take U__law_text (PySem.W.mg_of X G a__law_text) k__law_text (U__law_text.binds (ps := ["pot"]) fun _ _ _ _ _ _ us hl => match us, hl with | [_], _ => rfl)
  have F__law_is_name : FD PySem.Challenge.pw_askwright_k02_what_is_a_name w K mg base (fun _ => 0) 1 "_law_is_name" 1 m__law_is_name := ok__law_is_name T  U__law_is_name (PySem.W.mg_of X G a__law_is_name) k__law_is_name (U__law_is_name.binds (ps := ["text"]) fun _ _ _ _ _ _ us hl => match us, hl with | [_], _ => rfl)
  exact ok_law T F_is_name F__law_pot F__law_text F__law_is_name U_law hm


end Law
open PySem PySem.W PyProof.Rows
set_option maxHeartbeats 0 in
theorem PySem.Challenge.cw_askwright_k02_what_is_a_name_holds : PySem.Challenge.rw_askwright_k02_what_is_a_name.Holds := by
  w_on; o_law; k_head; (case hw => w_witness2)
  k_fill
  refine L2.walk_of (l := PySem.Challenge.rw_askwright_k02_what_is_a_name) (n := 63) (k := 3) (x := "script") (CX := fun _ => L2.CX0) (sp := fun w => DL.spLaw _ 63) rfl (by decide) rfl ⟨rfl, by decide, by decide⟩ (fun w h Y => PySem.W.kIn_of Y) ?F (fun _ _ a ns hl _ hS => ⟨a, ns, rfl, hS, hl, fun _ => rfl⟩) (fun _ _ _ _ _ h => h)
  case F =>
    intro w mg fa h KX G hmg
    refine' Law.all_mk KX G hmg ?a_is_name ?l_is_name ?c_is_name ?k_is_name ?a__law_pot ?l__law_pot ?c__law_pot ?k__law_pot ?a__law_take ?l__law_take ?c__law_take ?k__law_take ?a__law_text ?l__law_text ?c__law_text ?k__law_text ?a__law_is_name ?l__law_is_name ?c__law_is_name ?k__law_is_name ?a_law ?l_law ?c_law ?k_law ?z_abs ?z_all ?z_bool ?z_isinstance ?z_len ?z_list ?z_range ?z_str ?y_LETTERS ?y_MOST_NAME ?y_NAME_SIGNS Law.law_true
    (case a_is_name => k_is); (case l_is_name => k_is); (case c_is_name => k_is); (case k_is_name => k_is); (case a__law_pot => k_is); (case l__law_pot => k_is); (case c__law_pot => k_is); (case k__law_pot => k_is); (case a__law_take => k_is); (case l__law_take => k_is); (case c__law_take => k_is); (case k__law_take => k_is); (case a__law_text => k_is); (case l__law_text => k_is); (case c__law_text => k_is); (case k__law_text => k_is); (case a__law_is_name => k_is); (case l__law_is_name => k_is); (case c__law_is_name => k_is); (case k__law_is_name => k_is); (case a_law => k_is); (case l_law => k_is); (case c_law => k_is); (case k_law => k_is); (case z_abs => k_is); (case z_all => k_is); (case z_bool => k_is); (case z_isinstance => k_is); (case z_len => k_is); (case z_list => k_is); (case z_range => k_is); (case z_str => k_is); (case y_LETTERS => k_is); (case y_MOST_NAME => k_is); (case y_NAME_SIGNS => k_is)

