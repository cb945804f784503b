import PyProof.Rows.All
import Wide.All
import OpenK.AllK
import Wide.FinOn
import HandS.ForMost
import HandS.ForExc
import HandS.IsInst
import HandS.Flow
import HandS.TupAny
import HandS.Steps
import HandS.TupMul
import HandS.TryOnly
import PyProof.MinMaxWalk
import PyProof.WalkInts
import KE.KMinKey
import HandS.SortKw
import KE.LtSeq
import KE.LtData
import HandS.Replace
import HandS.SetFor
import HandS.ReplaceList
import HandS.ExcIs
import HandS.ExcOwn
import HandS.ExcValue
import KE.GoesMore
import HandS.Iter
import HandS.Text
import HandS.RaiseMore
import HandS.More
import PyProof.StrLawsTight
import PyProof.Rows.StrItems
import HandS.Rev
import HandS.Small
import HandS.Conv
import HandS.Deep
import PyProof.Rows.SortShellAny
import HandS.ListItems
import HandS.WideBits
import HandS.EndBits
import PySem.Challenge.RW_askwright_k03_trees_written_and_read
set_option Elab.async false
set_option linter.all false
set_option maxRecDepth 100000
set_option autoImplicit false
set_option maxHeartbeats 4000000
/-! The data layer: plain data D, a store of cells, and what a piece of the text does to them. -/
namespace DL
open PySem PySem.Spec PyProof.Rows L2

/-- data: what a value is worth; obj n: the store's cell n -/
inductive D where
  | non | bl (b : Bool) | int (i : Int) | str (x : Str)
  | tup (ds : List D) | lst (ds : List D) | dct (ks : List Key) (ds : List D) | obj (n : Nat)
  /-- a list that is handed in -/
  | scr (ds : List D)
  /-- a caught exception of the class c -/
  | exn (c : Str)

/-- a changing thing -/
inductive Cell where
  | lst (ds : List D) | dct (ks : List Key) (ds : List D) | ins (C : Str) (fs : List (Str × D))

abbrev Sto := List Cell
abbrev En := List (Option D)

inductive RE where
  | ok (d : D) (S : Sto) | exc (c : Str) (S : Sto) | bad
inductive RA where
  | ok (ds : List D) (S : Sto) | exc (c : Str) (S : Sto) | bad
inductive RB where
  | ok (b : Bool) (S : Sto) | exc (c : Str) (S : Sto) | bad
inductive RS' where
  | nx (e : En) (S : Sto) | ret (d : D) (S : Sto) | brk (e : En) (S : Sto) | cont (e : En) (S : Sto) | exc (c : Str) (e : En) (S : Sto) | bad
abbrev ME := En → Sto → RE
abbrev MA := En → Sto → RA
abbrev MB := En → Sto → RB
abbrev MS := En → Sto → RS'
abbrev MF := List D → Sto → RE

section
variable (K : PySem.W.Frag)

/-- an exception's object -/
def ExK (cls : Value) (a : Addr) : HO := .ext fun h => ∃ (o : Obj) (vs : Array Value), h.get? a = some o ∧ Zc cls none o ∧ o.data = .fields vs
section
variable (B : Addr → Prop)
/-- a tuple, a list that stands still -/
def FT (ι : List Addr) (H : Hp) (a : Addr) (xs : List V) : Prop :=
  (a ∉ ι ∧ ¬ B a ∧ Rd H a (.tup xs)) ∨
    ∃ (o : Obj) (its : Array Value) (n : Nat), K.lookup a = some o ∧ o.cls = .type "tuple" ∧ o.data = .seq its n ∧ its.size ≤ sizeLine ∧ Vals xs its.toList
def FL (ι : List Addr) (H : Hp) (a : Addr) (xs : List V) : Prop := a ∉ ι ∧ ¬ B a ∧ H a = some (.lst xs)

/-- .. or an object of the module -/
def FS (ι : List Addr) (H : Hp) (a : Addr) (xs : List V) : Prop := (a ∉ ι ∧ ¬ B a ∧ Rd H a (.lst xs)) ∨
    ∃ (o : Obj) (its : Array Value) (n : Nat), K.lookup a = some o ∧ o.cls = .type "list" ∧ o.dict = none ∧ o.data = .seq its n ∧ its.size ≤ sizeLine ∧ Vals xs its.toList

end
variable (cA : Str → Addr) (B : Addr → Prop)
mutual
def RD (ι : List Addr) (H : Hp) : D → V → Prop
  | .non, v => v = .non
  | .bl b, v => v = .bl b
  | .int i, v => v = .int i
  | .str x, v => v = .str x
  | .tup ds, v => ∃ a xs, v = .ref a ∧ FT K B ι H a xs ∧ RDs ι H ds xs
  | .lst ds, v => ∃ a xs, v = .ref a ∧ FL B ι H a xs ∧ RDs ι H ds xs
  | .dct ks ds, v => ∃ a xs, v = .ref a ∧ a ∉ ι ∧ ¬ B a ∧ H a = some (.dK (ks.zip xs)) ∧ ks.length = xs.length ∧ RDs ι H ds xs
  | .obj n, v => ∃ a, v = .ref a ∧ ι[n]? = some a
  | .scr ds, v => ∃ a xs, v = .ref a ∧ FS K B ι H a xs ∧ RDs ι H ds xs
  | .exn c, v => ∃ a, v = .ref a ∧ a ∉ ι ∧ ¬ B a ∧ H a = some (ExK (.ref (cA c)) a)
def RDs (ι : List Addr) (H : Hp) : List D → List V → Prop
  | [], vs => vs = []
  | d :: ds, vs => ∃ v r, vs = v :: r ∧ RD ι H d v ∧ RDs ι H ds r
end
end

/-- what a step leaves as it was -/
structure Fr (ι ι' : List Addr) (H H' : Hp) : Prop where
  pre : ∃ l, ι' = ι ++ l ∧ ∀ a ∈ l, a ∉ ι ∧ H a = none
  st : ∀ a o, H a = some o → a ∉ ι → H' a = some o

theorem Fr.same {ι : List Addr} {H H' : Hp} (h : Same H H') : Fr ι ι H H' := ⟨⟨[], by simp, by simp⟩, fun a o e _ => h a o e⟩
theorem Fr.refl {ι : List Addr} {H : Hp} : Fr ι ι H H := Fr.same fun _ _ e => e
theorem Fr.trans {ι ι' ι'' : List Addr} {H H' H'' : Hp} (f : Fr ι ι' H H') (g : Fr ι' ι'' H' H'') : Fr ι ι'' H H'' := by
  obtain ⟨⟨l, e, p⟩, s⟩ := f
  obtain ⟨⟨l', e', p'⟩, s'⟩ := g
  subst e e'
  have hl : ∀ a o, H a = some o → a ∉ ι → a ∉ ι ++ l := fun a o h n m => by
    rcases List.mem_append.mp m with m | m
    · exact n m
    · rw [(p a m).2] at h; cases h
  refine ⟨⟨l ++ l', by simp, fun a m => ?_⟩, fun a o h n => s' a o (s a o h n) (hl a o h n)⟩
  rcases List.mem_append.mp m with m | m
  · exact p a m
  · have hn : a ∉ ι := fun z => (p' a m).1 (List.mem_append_left _ z)
    refine ⟨hn, ?_⟩
    cases q : H a with
    | none => rfl
    | some o =>
      have := s a o q hn
      rw [(p' a m).2] at this; cases this
theorem Fr.sub {ι ι' : List Addr} {H H' : Hp} (f : Fr ι ι' H H') {a : Addr} (h : a ∈ ι) : a ∈ ι' := by
  obtain ⟨⟨l, rfl, _⟩, _⟩ := f; exact List.mem_append_left _ h
theorem Fr.get {ι ι' : List Addr} {H H' : Hp} (f : Fr ι ι' H H') {n : Nat} {a : Addr} (h : ι[n]? = some a) : ι'[n]? = some a := by
  obtain ⟨⟨l, rfl, _⟩, _⟩ := f
  rw [List.getElem?_append_left (List.getElem?_eq_some_iff.mp h).1]; exact h
theorem Fr.out {ι ι' : List Addr} {H H' : Hp} (f : Fr ι ι' H H') {a : Addr} {o : HO} (h : H a = some o) (n : a ∉ ι) : a ∉ ι' := by
  obtain ⟨⟨l, rfl, p⟩, _⟩ := f
  intro m
  rcases List.mem_append.mp m with m | m
  · exact n m
  · rw [(p a m).2] at h; cases h
theorem Fr.rd {ι ι' : List Addr} {H H' : Hp} (f : Fr ι ι' H H') {a : Addr} {u : HO} (h : Rd H a u) (n : a ∉ ι) : a ∉ ι' ∧ Rd H' a u := by
  rcases h with h | ⟨o, h⟩
  · exact ⟨f.out h n, .inl (f.st _ _ h n)⟩
  · exact ⟨f.out h n, .inr ⟨o, f.st _ _ h n⟩⟩

section
variable {K : PySem.W.Frag} {cA : Str → Addr} {B : Addr → Prop}
theorem FT.fr {ι ι' : List Addr} {H H' : Hp} {a : Addr} {xs : List V} (f : Fr ι ι' H H') : FT K B ι H a xs → FT K B ι' H' a xs
  | .inl ⟨h1, h2, h3⟩ => .inl ⟨(f.rd h3 h1).1, h2, (f.rd h3 h1).2⟩
  | .inr h => .inr h
theorem FL.fr {ι ι' : List Addr} {H H' : Hp} {a : Addr} {xs : List V} (f : Fr ι ι' H H') : FL B ι H a xs → FL B ι' H' a xs
  | ⟨h1, h2, h3⟩ => ⟨f.out h3 h1, h2, f.st _ _ h3 h1⟩
theorem FS.fr {ι ι' : List Addr} {H H' : Hp} {a : Addr} {xs : List V} (f : Fr ι ι' H H') : FS K B ι H a xs → FS K B ι' H' a xs
  | .inl ⟨h1, h2, h3⟩ => .inl ⟨(f.rd h3 h1).1, h2, (f.rd h3 h1).2⟩
  | .inr h => .inr h
theorem FT.sq {ι : List Addr} {H : Hp} {a : Addr} {xs : List V} : FT K B ι H a xs → SqT K H a xs
  | .inl ⟨_, _, h⟩ => .inl h
  | .inr h => .inr h
theorem FL.sq {ι : List Addr} {H : Hp} {a : Addr} {xs : List V} : FL B ι H a xs → SqL K H a xs
  | ⟨_, _, h⟩ => .inl (.inl h)

theorem FS.sq {ι : List Addr} {H : Hp} {a : Addr} {xs : List V} : FS K B ι H a xs → SqL K H a xs
  | .inl ⟨_, _, h⟩ => .inl h
  | .inr h => .inr h

mutual
theorem RD.fr {ι ι' : List Addr} {H H' : Hp} (f : Fr ι ι' H H') : ∀ (d : D) (v : V), RD K cA B ι H d v → RD K cA B ι' H' d v
  | .non, v, h => by rw [RD] at h ⊢; exact h
  | .bl b, v, h => by rw [RD] at h ⊢; exact h
  | .int i, v, h => by rw [RD] at h ⊢; exact h
  | .str x, v, h => by rw [RD] at h ⊢; exact h
  | .tup ds, v, h => by
    rw [RD] at h ⊢
    obtain ⟨a, xs, e, h1, h2⟩ := h
    exact ⟨a, xs, e, h1.fr f, RDs.fr f ds xs h2⟩
  | .lst ds, v, h => by
    rw [RD] at h ⊢
    obtain ⟨a, xs, e, h1, h2⟩ := h
    exact ⟨a, xs, e, h1.fr f, RDs.fr f ds xs h2⟩
  | .dct ks ds, v, h => by
    rw [RD] at h ⊢
    obtain ⟨a, xs, e, h1, h2, h3, h4, h5⟩ := h
    exact ⟨a, xs, e, f.out h3 h1, h2, f.st _ _ h3 h1, h4, RDs.fr f ds xs h5⟩
  | .obj n, v, h => by
    rw [RD] at h ⊢
    obtain ⟨a, e, h1⟩ := h
    exact ⟨a, e, f.get h1⟩
  | .scr ds, v, h => by
    rw [RD] at h ⊢
    obtain ⟨a, xs, e, h1, h2⟩ := h
    exact ⟨a, xs, e, h1.fr f, RDs.fr f ds xs h2⟩
  | .exn c, v, h => by
    rw [RD] at h ⊢
    obtain ⟨a, e, h1, h2, h3⟩ := h
    exact ⟨a, e, f.out h3 h1, h2, f.st _ _ h3 h1⟩
theorem RDs.fr {ι ι' : List Addr} {H H' : Hp} (f : Fr ι ι' H H') : ∀ (ds : List D) (vs : List V), RDs K cA B ι H ds vs → RDs K cA B ι' H' ds vs
  | [], vs, h => by rw [RDs] at h ⊢; exact h
  | d :: ds, vs, h => by
    rw [RDs] at h ⊢
    obtain ⟨v, r, e, h1, h2⟩ := h
    exact ⟨v, r, e, RD.fr f d v h1, RDs.fr f ds r h2⟩
end
variable {ι : List Addr} {H : Hp}
theorem RDs.nil : RDs K cA B ι H [] [] := by rw [RDs]
theorem RDs.cons {d : D} {v : V} {ds : List D} {vs : List V} (h : RD K cA B ι H d v) (t : RDs K cA B ι H ds vs) : RDs K cA B ι H (d :: ds) (v :: vs) := by
  rw [RDs]; exact ⟨v, vs, rfl, h, t⟩
theorem RDs.uncons {d : D} {v : V} {ds : List D} {vs : List V} (h : RDs K cA B ι H (d :: ds) (v :: vs)) : RD K cA B ι H d v ∧ RDs K cA B ι H ds vs := by
  rw [RDs] at h
  obtain ⟨v', r, e, h1, h2⟩ := h
  cases e
  exact ⟨h1, h2⟩
theorem RDs.nil_inv {vs : List V} (h : RDs K cA B ι H [] vs) : vs = [] := by rw [RDs] at h; exact h
theorem RDs.cons_inv {d : D} {ds : List D} {vs : List V} (h : RDs K cA B ι H (d :: ds) vs) : ∃ v r, vs = v :: r ∧ RD K cA B ι H d v ∧ RDs K cA B ι H ds r := by rw [RDs] at h; exact h
theorem RDs.len : ∀ {ds : List D} {vs : List V}, RDs K cA B ι H ds vs → ds.length = vs.length
  | [], vs, h => by rw [h.nil_inv] <;> rfl
  | d :: ds, vs, h => by
    obtain ⟨v, r, rfl, _, h2⟩ := h.cons_inv
    rw [List.length_cons, List.length_cons, RDs.len h2]
theorem RDs.get : ∀ {ds : List D} {vs : List V} {i : Nat} {d : D}, RDs K cA B ι H ds vs → ds[i]? = some d → ∃ v, vs[i]? = some v ∧ RD K cA B ι H d v
  | [], vs, i, d, h, e => by simp at e
  | c :: ds, vs, 0, d, h, e => by
    obtain ⟨v, r, rfl, h1, _⟩ := h.cons_inv
    simp at e; subst e
    exact ⟨v, rfl, h1⟩
  | c :: ds, vs, i + 1, d, h, e => by
    obtain ⟨v, r, rfl, _, h2⟩ := h.cons_inv
    obtain ⟨u, h3, h4⟩ := RDs.get (i := i) h2 (by simpa using e)
    exact ⟨u, by simpa using h3, h4⟩
theorem RDs.get' {ds : List D} {vs : List V} {i : Nat} {v : V} (h : RDs K cA B ι H ds vs) (e : vs[i]? = some v) : ∃ d, ds[i]? = some d ∧ RD K cA B ι H d v := by
  have hi : i < ds.length := by rw [h.len]; exact (List.getElem?_eq_some_iff.mp e).1
  obtain ⟨u, h1, h2⟩ := h.get (List.getElem?_eq_getElem hi)
  rw [e] at h1; cases h1
  exact ⟨_, List.getElem?_eq_getElem hi, h2⟩
theorem RDs.append : ∀ {ds es : List D} {vs us : List V}, RDs K cA B ι H ds vs → RDs K cA B ι H es us → RDs K cA B ι H (ds ++ es) (vs ++ us)
  | [], es, vs, us, h, g => by rw [h.nil_inv]; exact g
  | d :: ds, es, vs, us, h, g => by
    obtain ⟨v, r, rfl, h1, h2⟩ := h.cons_inv
    exact .cons h1 (RDs.append h2 g)
theorem RDs.take : ∀ {ds : List D} {vs : List V} (n : Nat), RDs K cA B ι H ds vs → RDs K cA B ι H (ds.take n) (vs.take n)
  | ds, vs, 0, h => by simp; exact .nil
  | [], vs, n + 1, h => by rw [h.nil_inv]; exact .nil
  | d :: ds, vs, n + 1, h => by
    obtain ⟨v, r, rfl, h1, h2⟩ := h.cons_inv
    exact .cons h1 (RDs.take n h2)
theorem RDs.drop : ∀ {ds : List D} {vs : List V} (n : Nat), RDs K cA B ι H ds vs → RDs K cA B ι H (ds.drop n) (vs.drop n)
  | ds, vs, 0, h => by simpa using h
  | [], vs, n + 1, h => by rw [h.nil_inv]; exact .nil
  | d :: ds, vs, n + 1, h => by
    obtain ⟨v, r, rfl, h1, h2⟩ := h.cons_inv
    simpa using RDs.drop n h2
theorem RDs.set : ∀ {ds : List D} {vs : List V} {d : D} {v : V} (i : Nat), RDs K cA B ι H ds vs → RD K cA B ι H d v → RDs K cA B ι H (ds.set i d) (vs.set i v)
  | [], vs, d, v, i, h, g => by rw [h.nil_inv]; simpa using (RDs.nil : RDs K cA B ι H [] [])
  | c :: ds, vs, d, v, 0, h, g => by
    obtain ⟨v, r, rfl, h1, h2⟩ := h.cons_inv
    exact .cons g h2
  | c :: ds, vs, d, v, i + 1, h, g => by
    obtain ⟨v, r, rfl, h1, h2⟩ := h.cons_inv
    exact .cons h1 (RDs.set i h2 g)
theorem RD.mk_int {i : Int} : RD K cA B ι H (.int i) (.int i) := by rw [RD]
theorem RD.mk_bl {b : Bool} : RD K cA B ι H (.bl b) (.bl b) := by rw [RD]
theorem RD.mk_str {x : Str} : RD K cA B ι H (.str x) (.str x) := by rw [RD]
theorem RD.mk_non : RD K cA B ι H .non .non := by rw [RD]
theorem RD.int {i : Int} {v : V} (h : RD K cA B ι H (.int i) v) : v = .int i := by rw [RD] at h; exact h
theorem RD.bl {b : Bool} {v : V} (h : RD K cA B ι H (.bl b) v) : v = .bl b := by rw [RD] at h; exact h
theorem RD.str {x : Str} {v : V} (h : RD K cA B ι H (.str x) v) : v = .str x := by rw [RD] at h; exact h
theorem RD.non {v : V} (h : RD K cA B ι H .non v) : v = .non := by rw [RD] at h; exact h
theorem RD.tup {ds : List D} {v : V} (h : RD K cA B ι H (.tup ds) v) : ∃ a xs, v = .ref a ∧ FT K B ι H a xs ∧ RDs K cA B ι H ds xs := by rw [RD] at h; exact h
theorem RD.lst {ds : List D} {v : V} (h : RD K cA B ι H (.lst ds) v) : ∃ a xs, v = .ref a ∧ FL B ι H a xs ∧ RDs K cA B ι H ds xs := by rw [RD] at h; exact h
theorem RD.obj {n : Nat} {v : V} (h : RD K cA B ι H (.obj n) v) : ∃ a, v = .ref a ∧ ι[n]? = some a := by rw [RD] at h; exact h
theorem RD.dct {ks : List Key} {ds : List D} {v : V} (h : RD K cA B ι H (.dct ks ds) v) : ∃ a xs, v = .ref a ∧ a ∉ ι ∧ ¬ B a ∧ H a = some (.dK (ks.zip xs)) ∧ ks.length = xs.length ∧ RDs K cA B ι H ds xs := by rw [RD] at h; exact h
theorem RD.scr {ds : List D} {v : V} (h : RD K cA B ι H (.scr ds) v) : ∃ a xs, v = .ref a ∧ FS K B ι H a xs ∧ RDs K cA B ι H ds xs := by rw [RD] at h; exact h
theorem RD.exn {c : Str} {v : V} (h : RD K cA B ι H (.exn c) v) : ∃ a, v = .ref a ∧ a ∉ ι ∧ ¬ B a ∧ H a = some (ExK (.ref (cA c)) a) := by rw [RD] at h; exact h
theorem RD.mk_exn {c : Str} {a : Addr} (h1 : a ∉ ι) (h2 : ¬ B a) (h3 : H a = some (ExK (.ref (cA c)) a)) : RD K cA B ι H (.exn c) (.ref a) := by rw [RD]; exact ⟨a, rfl, h1, h2, h3⟩
theorem RD.mk_obj {n : Nat} {a : Addr} (h : ι[n]? = some a) : RD K cA B ι H (.obj n) (.ref a) := by rw [RD]; exact ⟨a, rfl, h⟩
theorem RD.mk_tup {ds : List D} {a : Addr} {xs : List V} (h : FT K B ι H a xs) (r : RDs K cA B ι H ds xs) : RD K cA B ι H (.tup ds) (.ref a) := by rw [RD]; exact ⟨a, xs, rfl, h, r⟩
theorem RD.mk_lst {ds : List D} {a : Addr} {xs : List V} (h : FL B ι H a xs) (r : RDs K cA B ι H ds xs) : RD K cA B ι H (.lst ds) (.ref a) := by rw [RD]; exact ⟨a, xs, rfl, h, r⟩
end

section
variable (K : PySem.W.Frag) (cA : Str → Addr) (B : Addr → Prop)
/-- a cell stands at a -/
def RO (ι : List Addr) (H : Hp) (a : Addr) : Cell → Prop
  | .lst ds => ∃ xs, H a = some (.lst xs) ∧ RDs K cA B ι H ds xs
  | .dct ks ds => ∃ xs, H a = some (.dK (ks.zip xs)) ∧ ks.length = xs.length ∧ RDs K cA B ι H ds xs
  | .ins C fs => ∃ dx xs, H a = some (.ins (cA C) dx ((fs.map (·.1)).zip xs)) ∧ fs.length = xs.length ∧ RDs K cA B ι H (fs.map (·.2)) xs
structure RS (ι : List Addr) (S : Sto) (H : Hp) : Prop where
  len : ι.length = S.length
  nd : ι.Nodup
  nB : ∀ a, B a → a ∉ ι ∧ ∃ o, H a = some o
  at_ : ∀ (i : Nat) (c : Cell), S[i]? = some c → ∃ a, ι[i]? = some a ∧ RO K cA B ι H a c
structure Rel (ι : List Addr) (e : En) (S : Sto) (σ : L2.St) (H : Hp) : Prop where
  rs : RS K cA B ι S H
  len : e.length = σ.length
  ev : ∀ (i : Nat) (d : D), e[i]? = some (some d) → ∃ v, σ[i]? = some (some v) ∧ RD K cA B ι H d v
end
section
variable {K : PySem.W.Frag} {cA : Str → Addr} {B : Addr → Prop} {ι ι' : List Addr} {H H' : Hp} {S S' : Sto} {e : En} {σ : L2.St}
theorem RO.fr {a : Addr} {c : Cell} (f : Fr ι ι' H H') (ha : H' a = H a) (h : RO K cA B ι H a c) : RO K cA B ι' H' a c := by
  cases c with
  | lst ds => obtain ⟨xs, h1, h2⟩ := h; exact ⟨xs, by rw [ha]; exact h1, RDs.fr f _ _ h2⟩
  | dct ks ds => obtain ⟨xs, h1, h2, h3⟩ := h; exact ⟨xs, by rw [ha]; exact h1, h2, RDs.fr f _ _ h3⟩
  | ins C fs => obtain ⟨dx, xs, h1, h2, h3⟩ := h; exact ⟨dx, xs, by rw [ha]; exact h1, h2, RDs.fr f _ _ h3⟩
theorem RO.has {a : Addr} {c : Cell} (h : RO K cA B ι H a c) : ∃ o, H a = some o := by
  cases c with
  | lst ds => obtain ⟨xs, h1, h2⟩ := h; exact ⟨_, h1⟩
  | dct ks ds => obtain ⟨xs, h1, h2, h3⟩ := h; exact ⟨_, h1⟩
  | ins C fs => obtain ⟨dx, xs, h1, h2, h3⟩ := h; exact ⟨_, h1⟩
theorem RS.same (r : RS K cA B ι S H) (h : Same H H') : RS K cA B ι S H' := ⟨r.len, r.nd, fun a b => let ⟨h1, o, h2⟩ := r.nB a b; ⟨h1, o, h a o h2⟩, fun i c e => by
  obtain ⟨a, h1, h2⟩ := r.at_ i c e
  obtain ⟨o, ho⟩ := h2.has
  exact ⟨a, h1, h2.fr (Fr.same h) (by rw [ho]; exact h a o ho)⟩⟩
theorem RS.there (r : RS K cA B ι S H) {a : Addr} (h : a ∈ ι) : ∃ o, H a = some o := by
  obtain ⟨i, hi, e⟩ := List.getElem_of_mem h
  have : i < S.length := by rw [← r.len]; exact hi
  obtain ⟨b, h1, h2⟩ := r.at_ i _ (List.getElem?_eq_getElem this)
  rw [List.getElem?_eq_getElem hi, e] at h1; cases h1
  exact h2.has
theorem Rel.fr (r : Rel K cA B ι e S σ H) (f : Fr ι ι' H H') (rs : RS K cA B ι' S' H') : Rel K cA B ι' e S' σ H' :=
  ⟨rs, r.len, fun i d h => let ⟨v, h1, h2⟩ := r.ev i d h; ⟨v, h1, RD.fr f d v h2⟩⟩
end

section
variable (K : PySem.W.Frag) (cA : Str → Addr) (W : WX)
/-- what is wanted behind an expression -/
def PoE (B : Addr → Prop) (r : RE) (ι : List Addr) (σ : L2.St) (H : Hp) (Q : VK) : Prop :=
  match r with
  | .ok d S => ∀ ι' v H', Fr ι ι' H H' → RS K cA B ι' S H' → RD K cA B ι' H' d v → Q v H'
  | .exc c S => ∀ ι' H', Fr ι ι' H H' → RS K cA B ι' S H' → W (.ref (cA c)) none σ H'
  | .bad => False
def PoA (B : Addr → Prop) (r : RA) (ι : List Addr) (σ : L2.St) (H : Hp) (Q : List V → Hp → Prop) : Prop :=
  match r with
  | .ok ds S => ∀ ι' vs H', Fr ι ι' H H' → RS K cA B ι' S H' → RDs K cA B ι' H' ds vs → Q vs H'
  | .exc c S => ∀ ι' H', Fr ι ι' H H' → RS K cA B ι' S H' → W (.ref (cA c)) none σ H'
  | .bad => False
def PoB (B : Addr → Prop) (r : RB) (ι : List Addr) (σ : L2.St) (H : Hp) (Q : Bool → Hp → Prop) : Prop :=
  match r with
  | .ok b S => ∀ ι' H', Fr ι ι' H H' → RS K cA B ι' S H' → Q b H'
  | .exc c S => ∀ ι' H', Fr ι ι' H H' → RS K cA B ι' S H' → W (.ref (cA c)) none σ H'
  | .bad => False
def PoS (B : Addr → Prop) (r : RS') (ι : List Addr) (H : Hp) (D' : Ends) : Prop :=
  match r with
  | .nx e S => ∀ ι' σ' H', Fr ι ι' H H' → Rel K cA B ι' e S σ' H' → D'.nx σ' H'
  | .brk e S => ∀ ι' σ' H', Fr ι ι' H H' → Rel K cA B ι' e S σ' H' → D'.bk σ' H'
  | .cont e S => ∀ ι' σ' H', Fr ι ι' H H' → Rel K cA B ι' e S σ' H' → D'.ct σ' H'
  | .ret d S => ∀ ι' v H', Fr ι ι' H H' → RS K cA B ι' S H' → RD K cA B ι' H' d v → D'.rt v H'
  | .exc c e S => ∀ ι' σ' H', Fr ι ι' H H' → Rel K cA B ι' e S σ' H' → W (.ref (cA c)) none σ' H'
  | .bad => False
def tE (m : ME) : TE := fun σ H Q => ∃ B ι e S, Rel K cA B ι e S σ H ∧ PoE K cA W B (m e S) ι σ H Q
def tA (m : MA) : TA := fun σ H Q => ∃ B ι e S, Rel K cA B ι e S σ H ∧ PoA K cA W B (m e S) ι σ H Q
def tT (m : MB) : TT := fun σ H Q => ∃ B ι e S, Rel K cA B ι e S σ H ∧ PoB K cA W B (m e S) ι σ H Q
def tS (m : MS) : TS := fun D' σ H => ∃ B ι e S, Rel K cA B ι e S σ H ∧ PoS K cA W B (m e S) ι H D'
end
end DL

/-! The data layer: expressions and statements. -/
namespace DL
open PySem PySem.Spec PyProof.Rows L2

/-! ### weakening -/
theorem PEi {X : Cx} {e : Expr} {t t' : TE} (h : PE X e t) (i : ∀ σ H Q, t' σ H Q → t σ H Q) : PE X e t' := ⟨fun p s σ H Q I q => h.run p s σ H Q I (i σ H Q q)⟩
theorem PTi {X : Cx} {e : Expr} {t t' : TT} (h : PT X e t) (i : ∀ σ H Q, t' σ H Q → t σ H Q) : PT X e t' := ⟨fun p s σ H Q I q => h.run p s σ H Q I (i σ H Q q)⟩
theorem PWi {X : Cx} {e : Expr} {t t' : TT} (h : PW X e t) (i : ∀ σ H Q, t' σ H Q → t σ H Q) : PW X e t' := ⟨fun wh p s σ H Q I q => h.run wh p s σ H Q I (i σ H Q q)⟩
theorem PAi {X : Cx} {e : List Expr} {t t' : TA} (h : PA X e t) (i : ∀ σ H Q, t' σ H Q → t σ H Q) : PA X e t' := ⟨fun po p s σ H Q I q => h.run po p s σ H Q I (i σ H Q q)⟩
theorem PSi {X : Cx} {e : Stmt} {t t' : TS} (h : PS X e t) (i : ∀ D' σ H, t' D' σ H → t D' σ H) : PS X e t' := ⟨fun p s σ H D' I q => h.run p s σ H D' I (i D' σ H q)⟩
theorem PSsi {X : Cx} {e : List Stmt} {t t' : TS} (h : PSs X e t) (i : ∀ D' σ H, t' D' σ H → t D' σ H) : PSs X e t' := ⟨fun p s σ H D' I q => h.run p s σ H D' I (i D' σ H q)⟩

/-! ### what a piece does -/
def RE.bind (r : RE) (f : D → Sto → RE) : RE := match r with | .ok d S => f d S | .exc c S => .exc c S | .bad => .bad
def RE.bindA (r : RE) (f : D → Sto → RA) : RA := match r with | .ok d S => f d S | .exc c S => .exc c S | .bad => .bad
def RE.bindB (r : RE) (f : D → Sto → RB) : RB := match r with | .ok d S => f d S | .exc c S => .exc c S | .bad => .bad
def RE.bindS (r : RE) (e : En) (f : D → Sto → RS') : RS' := match r with | .ok d S => f d S | .exc c S => .exc c e S | .bad => .bad
def RA.bind (r : RA) (f : List D → Sto → RE) : RE := match r with | .ok d S => f d S | .exc c S => .exc c S | .bad => .bad
def RA.bindA (r : RA) (f : List D → Sto → RA) : RA := match r with | .ok d S => f d S | .exc c S => .exc c S | .bad => .bad
def RB.bind (r : RB) (f : Bool → Sto → RE) : RE := match r with | .ok d S => f d S | .exc c S => .exc c S | .bad => .bad
def RB.bindB (r : RB) (f : Bool → Sto → RB) : RB := match r with | .ok d S => f d S | .exc c S => .exc c S | .bad => .bad
def RB.bindS (r : RB) (e : En) (f : Bool → Sto → RS') : RS' := match r with | .ok d S => f d S | .exc c S => .exc c e S | .bad => .bad
def RS'.bind (r : RS') (f : En → Sto → RS') : RS' := match r with | .nx e S => f e S | r => r
def opt (r : Option D) (S : Sto) : RE := match r with | some d => .ok d S | none => .bad
def optB (r : Option Bool) (S : Sto) : RB := match r with | some d => .ok d S | none => .bad

def eV (i : Nat) : ME := fun e S => match e[i]? with | some (some d) => .ok d S | _ => .bad
def eC (d : D) : ME := fun _ S => .ok d S
def e2 (g : Sto → D → D → Option D) (a b : ME) : ME := fun e S => (a e S).bind fun x S1 => (b e S1).bind fun y S2 => opt (g S2 x y) S2
def e1 (g : Sto → D → Option D) (a : ME) : ME := fun e S => (a e S).bind fun x S1 => opt (g S1 x) S1
def tOf (a : ME) : MB := fun e S => (a e S).bindB fun x S1 => match x with | .bl b => .ok b S1 | _ => .bad
def tNo (a : MB) : MB := fun e S => (a e S).bindB fun b S1 => .ok (!b) S1
def tAn (a b : MB) : MB := fun e S => (a e S).bindB fun x S1 => if x = true then b e S1 else .ok false S1
def tO (a b : MB) : MB := fun e S => (a e S).bindB fun x S1 => if x = true then .ok true S1 else b e S1
def eIf (c : MB) (a b : ME) : ME := fun e S => (c e S).bind fun x S1 => if x = true then a e S1 else b e S1
def eNo (a : ME) : ME := fun e S => (a e S).bind fun x S1 => match x with | .bl b => .ok (.bl (!b)) S1 | _ => .bad
/-- a and b: a True or False -/
def eAn (a b : ME) : ME := fun e S => (a e S).bind fun x S1 => match x with | .bl true => b e S1 | .bl false => .ok (.bl false) S1 | _ => .bad
def eO (a b : ME) : ME := fun e S => (a e S).bind fun x S1 => match x with | .bl false => b e S1 | .bl true => .ok (.bl true) S1 | _ => .bad
def aN : MA := fun _ S => .ok [] S
def aC (a : ME) (r : MA) : MA := fun e S => (a e S).bindA fun x S1 => (r e S1).bindA fun xs S2 => .ok (x :: xs) S2
def eTup (a : MA) : ME := fun e S => (a e S).bind fun xs S1 => if xs.length ≤ 16777216 then .ok (.tup xs) S1 else .bad
/-- a list that is not changed any more -/
def eLst (a : MA) : ME := fun e S => (a e S).bind fun xs S1 => if xs.length ≤ 16777216 then .ok (.lst xs) S1 else .bad
/-- a list that changes: a new cell -/
def eNew (a : MA) : ME := fun e S => (a e S).bind fun xs S1 => if xs.length ≤ 16777216 then .ok (.obj S1.length) (S1 ++ [.lst xs]) else .bad
def eB (g : Sto → List D → Option D) (a : MA) : ME := fun e S => (a e S).bind fun xs S1 => opt (g S1 xs) S1

def sPass : MS := fun e S => .nx e S
def sSeq (a b : MS) : MS := fun e S => (a e S).bind b
def sSet (i : Nat) (m : ME) : MS := fun e S => (m e S).bindS e fun d S1 => .nx (e.set i (some d)) S1
def sEx (m : ME) : MS := fun e S => (m e S).bindS e fun _ S1 => .nx e S1
def sRet (m : ME) : MS := fun e S => (m e S).bindS e fun d S1 => .ret d S1
def sRetN : MS := fun _ S => .ret .non S
def sIf (c : MB) (a b : MS) : MS := fun e S => (c e S).bindS e fun x S1 => if x = true then a e S1 else b e S1
def sBrk : MS := fun e S => .brk e S
def sCont : MS := fun e S => .cont e S

section
variable {K : PySem.W.Frag} {cA : Str → Addr} {W : WX} {B : Addr → Prop}
/-- behind a first expression -/
theorem po_bind {m : ME} {f : D → Sto → RE} {ι : List Addr} {e : En} {S : Sto} {σ : L2.St} {H : Hp} {Q : VK} {T : VK} (r : Rel K cA B ι e S σ H)
    (h : PoE K cA W B ((m e S).bind f) ι σ H Q) (k : ∀ ι' v H' d S', Fr ι ι' H H' → Rel K cA B ι' e S' σ H' → RD K cA B ι' H' d v → PoE K cA W B (f d S') ι' σ H' Q → T v H') : PoE K cA W B (m e S) ι σ H T := by
  unfold RE.bind at h
  cases q : m e S with
  | bad => rw [q] at h; exact h
  | exc c S' => rw [q] at h; exact h
  | ok d S' =>
    rw [q] at h
    intro ι' v H' fr rs rd
    refine k ι' v H' d S' fr (r.fr fr rs) rd ?_
    show PoE K cA W B (f d S') ι' σ H' Q
    change PoE K cA W B (f d S') ι σ H Q at h
    revert h
    cases f d S' with
    | bad => exact id
    | ok d2 S2 => exact fun h ι2 v2 H2 f2 r2 d2 => h ι2 v2 H2 (fr.trans f2) r2 d2
    | exc c S2 => exact fun h ι2 H2 f2 r2 => h ι2 H2 (fr.trans f2) r2
theorem po_bindB {m : ME} {f : D → Sto → RB} {ι : List Addr} {e : En} {S : Sto} {σ : L2.St} {H : Hp} {Q : Bool → Hp → Prop} {T : VK} (r : Rel K cA B ι e S σ H)
    (h : PoB K cA W B ((m e S).bindB f) ι σ H Q) (k : ∀ ι' v H' d S', Fr ι ι' H H' → Rel K cA B ι' e S' σ H' → RD K cA B ι' H' d v → PoB K cA W B (f d S') ι' σ H' Q → T v H') : PoE K cA W B (m e S) ι σ H T := by
  unfold RE.bindB at h
  cases q : m e S with
  | bad => rw [q] at h; exact h
  | exc c S' => rw [q] at h; exact h
  | ok d S' =>
    rw [q] at h
    intro ι' v H' fr rs rd
    refine k ι' v H' d S' fr (r.fr fr rs) rd ?_
    show PoB K cA W B (f d S') ι' σ H' Q
    change PoB K cA W B (f d S') ι σ H Q at h
    revert h
    cases f d S' with
    | bad => exact id
    | ok d2 S2 => exact fun h ι2 H2 f2 r2 => h ι2 H2 (fr.trans f2) r2
    | exc c S2 => exact fun h ι2 H2 f2 r2 => h ι2 H2 (fr.trans f2) r2
theorem po_bindA {m : ME} {f : D → Sto → RA} {ι : List Addr} {e : En} {S : Sto} {σ : L2.St} {H : Hp} {Q : List V → Hp → Prop} {T : VK} (r : Rel K cA B ι e S σ H)
    (h : PoA K cA W B ((m e S).bindA f) ι σ H Q) (k : ∀ ι' v H' d S', Fr ι ι' H H' → Rel K cA B ι' e S' σ H' → RD K cA B ι' H' d v → PoA K cA W B (f d S') ι' σ H' Q → T v H') : PoE K cA W B (m e S) ι σ H T := by
  unfold RE.bindA at h
  cases q : m e S with
  | bad => rw [q] at h; exact h
  | exc c S' => rw [q] at h; exact h
  | ok d S' =>
    rw [q] at h
    intro ι' v H' fr rs rd
    refine k ι' v H' d S' fr (r.fr fr rs) rd ?_
    show PoA K cA W B (f d S') ι' σ H' Q
    change PoA K cA W B (f d S') ι σ H Q at h
    revert h
    cases f d S' with
    | bad => exact id
    | ok d2 S2 => exact fun h ι2 v2 H2 f2 r2 d2 => h ι2 v2 H2 (fr.trans f2) r2 d2
    | exc c S2 => exact fun h ι2 H2 f2 r2 => h ι2 H2 (fr.trans f2) r2
theorem poA_bind {m : MA} {f : List D → Sto → RE} {ι : List Addr} {e : En} {S : Sto} {σ : L2.St} {H : Hp} {Q : VK} {T : List V → Hp → Prop} (r : Rel K cA B ι e S σ H)
    (h : PoE K cA W B ((m e S).bind f) ι σ H Q) (k : ∀ ι' vs H' ds S', Fr ι ι' H H' → Rel K cA B ι' e S' σ H' → RDs K cA B ι' H' ds vs → PoE K cA W B (f ds S') ι' σ H' Q → T vs H') : PoA K cA W B (m e S) ι σ H T := by
  unfold RA.bind at h
  cases q : m e S with
  | bad => rw [q] at h; exact h
  | exc c S' => rw [q] at h; exact h
  | ok d S' =>
    rw [q] at h
    intro ι' v H' fr rs rd
    refine k ι' v H' d S' fr (r.fr fr rs) rd ?_
    show PoE K cA W B (f d S') ι' σ H' Q
    change PoE K cA W B (f d S') ι σ H Q at h
    revert h
    cases f d S' with
    | bad => exact id
    | ok d2 S2 => exact fun h ι2 v2 H2 f2 r2 d2 => h ι2 v2 H2 (fr.trans f2) r2 d2
    | exc c S2 => exact fun h ι2 H2 f2 r2 => h ι2 H2 (fr.trans f2) r2
theorem poA_bindA {m : MA} {f : List D → Sto → RA} {ι : List Addr} {e : En} {S : Sto} {σ : L2.St} {H : Hp} {Q : List V → Hp → Prop} {T : List V → Hp → Prop} (r : Rel K cA B ι e S σ H)
    (h : PoA K cA W B ((m e S).bindA f) ι σ H Q) (k : ∀ ι' vs H' ds S', Fr ι ι' H H' → Rel K cA B ι' e S' σ H' → RDs K cA B ι' H' ds vs → PoA K cA W B (f ds S') ι' σ H' Q → T vs H') : PoA K cA W B (m e S) ι σ H T := by
  unfold RA.bindA at h
  cases q : m e S with
  | bad => rw [q] at h; exact h
  | exc c S' => rw [q] at h; exact h
  | ok d S' =>
    rw [q] at h
    intro ι' v H' fr rs rd
    refine k ι' v H' d S' fr (r.fr fr rs) rd ?_
    show PoA K cA W B (f d S') ι' σ H' Q
    change PoA K cA W B (f d S') ι σ H Q at h
    revert h
    cases f d S' with
    | bad => exact id
    | ok d2 S2 => exact fun h ι2 v2 H2 f2 r2 d2 => h ι2 v2 H2 (fr.trans f2) r2 d2
    | exc c S2 => exact fun h ι2 H2 f2 r2 => h ι2 H2 (fr.trans f2) r2
theorem poB_bind {m : MB} {f : Bool → Sto → RE} {ι : List Addr} {e : En} {S : Sto} {σ : L2.St} {H : Hp} {Q : VK} {T : Bool → Hp → Prop} (r : Rel K cA B ι e S σ H)
    (h : PoE K cA W B ((m e S).bind f) ι σ H Q) (k : ∀ ι' H' b S', Fr ι ι' H H' → Rel K cA B ι' e S' σ H' → PoE K cA W B (f b S') ι' σ H' Q → T b H') : PoB K cA W B (m e S) ι σ H T := by
  unfold RB.bind at h
  cases q : m e S with
  | bad => rw [q] at h; exact h
  | exc c S' => rw [q] at h; exact h
  | ok d S' =>
    rw [q] at h
    intro ι' H' fr rs
    refine k ι' H' d S' fr (r.fr fr rs) ?_
    show PoE K cA W B (f d S') ι' σ H' Q
    change PoE K cA W B (f d S') ι σ H Q at h
    revert h
    cases f d S' with
    | bad => exact id
    | ok d2 S2 => exact fun h ι2 v2 H2 f2 r2 d2 => h ι2 v2 H2 (fr.trans f2) r2 d2
    | exc c S2 => exact fun h ι2 H2 f2 r2 => h ι2 H2 (fr.trans f2) r2
theorem poB_bindB {m : MB} {f : Bool → Sto → RB} {ι : List Addr} {e : En} {S : Sto} {σ : L2.St} {H : Hp} {Q : Bool → Hp → Prop} {T : Bool → Hp → Prop} (r : Rel K cA B ι e S σ H)
    (h : PoB K cA W B ((m e S).bindB f) ι σ H Q) (k : ∀ ι' H' b S', Fr ι ι' H H' → Rel K cA B ι' e S' σ H' → PoB K cA W B (f b S') ι' σ H' Q → T b H') : PoB K cA W B (m e S) ι σ H T := by
  unfold RB.bindB at h
  cases q : m e S with
  | bad => rw [q] at h; exact h
  | exc c S' => rw [q] at h; exact h
  | ok d S' =>
    rw [q] at h
    intro ι' H' fr rs
    refine k ι' H' d S' fr (r.fr fr rs) ?_
    show PoB K cA W B (f d S') ι' σ H' Q
    change PoB K cA W B (f d S') ι σ H Q at h
    revert h
    cases f d S' with
    | bad => exact id
    | ok d2 S2 => exact fun h ι2 H2 f2 r2 => h ι2 H2 (fr.trans f2) r2
    | exc c S2 => exact fun h ι2 H2 f2 r2 => h ι2 H2 (fr.trans f2) r2
/-- statements: further on -/
theorem PoS.on {r : RS'} {ι ι' : List Addr} {H H' : Hp} {D' : Ends} (fr : Fr ι ι' H H') (h : PoS K cA W B r ι H D') : PoS K cA W B r ι' H' D' := by
  cases r with
  | bad => exact h
  | nx e S => exact fun ι2 σ2 H2 f2 r2 => h ι2 σ2 H2 (fr.trans f2) r2
  | brk e S => exact fun ι2 σ2 H2 f2 r2 => h ι2 σ2 H2 (fr.trans f2) r2
  | cont e S => exact fun ι2 σ2 H2 f2 r2 => h ι2 σ2 H2 (fr.trans f2) r2
  | ret d S => exact fun ι2 v2 H2 f2 r2 d2 => h ι2 v2 H2 (fr.trans f2) r2 d2
  | exc c e S => exact fun ι2 σ2 H2 f2 r2 => h ι2 σ2 H2 (fr.trans f2) r2
theorem po_bindS {m : ME} {f : D → Sto → RS'} {ι : List Addr} {e : En} {S : Sto} {σ : L2.St} {H : Hp} {D' : Ends} {T : VK} (r : Rel K cA B ι e S σ H)
    (h : PoS K cA W B ((m e S).bindS e f) ι H D') (k : ∀ ι' v H' d S', Fr ι ι' H H' → Rel K cA B ι' e S' σ H' → RD K cA B ι' H' d v → PoS K cA W B (f d S') ι' H' D' → T v H') : PoE K cA W B (m e S) ι σ H T := by
  unfold RE.bindS at h
  cases q : m e S with
  | bad => rw [q] at h; exact h
  | exc c S' => rw [q] at h; exact fun ι' H' fr rs => h ι' σ H' fr (r.fr fr rs)
  | ok d S' =>
    rw [q] at h
    intro ι' v H' fr rs rd
    exact k ι' v H' d S' fr (r.fr fr rs) rd (PoS.on fr h)
theorem poB_bindS {m : MB} {f : Bool → Sto → RS'} {ι : List Addr} {e : En} {S : Sto} {σ : L2.St} {H : Hp} {D' : Ends} {T : Bool → Hp → Prop} (r : Rel K cA B ι e S σ H)
    (h : PoS K cA W B ((m e S).bindS e f) ι H D') (k : ∀ ι' H' b S', Fr ι ι' H H' → Rel K cA B ι' e S' σ H' → PoS K cA W B (f b S') ι' H' D' → T b H') : PoB K cA W B (m e S) ι σ H T := by
  unfold RB.bindS at h
  cases q : m e S with
  | bad => rw [q] at h; exact h
  | exc c S' => rw [q] at h; exact fun ι' H' fr rs => h ι' σ H' fr (r.fr fr rs)
  | ok d S' =>
    rw [q] at h
    intro ι' H' fr rs
    exact k ι' H' d S' fr (r.fr fr rs) (PoS.on fr h)
end

section
variable {X : Cx} {cA : Str → Addr} {W : WX}
/-! ### the words of a term: the set end of a reading is handed on by its own relation -/
theorem tE.of {K : PySem.W.Frag} {B : Addr → Prop} {m : ME} {ι : List Addr} {e : En} {S : Sto} {σ : L2.St} {H : Hp} {Q : VK} (r : Rel K cA B ι e S σ H) (h : PoE K cA W B (m e S) ι σ H Q) : tE K cA W m σ H Q := ⟨B, ι, e, S, r, h⟩
theorem tA.of {K : PySem.W.Frag} {B : Addr → Prop} {m : MA} {ι : List Addr} {e : En} {S : Sto} {σ : L2.St} {H : Hp} {Q : List V → Hp → Prop} (r : Rel K cA B ι e S σ H) (h : PoA K cA W B (m e S) ι σ H Q) : tA K cA W m σ H Q := ⟨B, ι, e, S, r, h⟩
theorem tT.of {K : PySem.W.Frag} {B : Addr → Prop} {m : MB} {ι : List Addr} {e : En} {S : Sto} {σ : L2.St} {H : Hp} {Q : Bool → Hp → Prop} (r : Rel K cA B ι e S σ H) (h : PoB K cA W B (m e S) ι σ H Q) : tT K cA W m σ H Q := ⟨B, ι, e, S, r, h⟩
theorem tS.of {K : PySem.W.Frag} {B : Addr → Prop} {m : MS} {ι : List Addr} {e : En} {S : Sto} {σ : L2.St} {H : Hp} {D' : Ends} (r : Rel K cA B ι e S σ H) (h : PoS K cA W B (m e S) ι H D') : tS K cA W m D' σ H := ⟨B, ι, e, S, r, h⟩

/-! ### expressions -/
theorem q_v {e : Expr} {i : Nat} (h : PE X e (tVar i)) : PE X e (tE X.K cA W (eV i)) := PEi h fun σ H Q ⟨B, ι, e, S, r, p⟩ => by
  unfold eV at p
  split at p
  · rename_i d q
    obtain ⟨v, h1, h2⟩ := r.ev i d q
    exact ⟨v, h1, p ι v H Fr.refl r.rs h2⟩
  · exact p.elim
theorem q_c {e : Expr} {v : V} {d : D} (h : PE X e (tC v)) (k : ∀ B ι H, RD X.K cA B ι H d v) : PE X e (tE X.K cA W (eC d)) := PEi h fun σ H Q ⟨B, ι, e, S, r, p⟩ => p ι v H Fr.refl r.rs (k B ι H)
theorem q_int {i : Int} {j pos} : PE X (.Constant (.int i) j pos) (tE X.K cA W (eC (.int i))) := q_c pe_int fun _ _ _ => RD.mk_int
theorem q_bl {i : Bool} {j pos} : PE X (.Constant (.bool i) j pos) (tE X.K cA W (eC (.bl i))) := q_c pe_bl fun _ _ _ => RD.mk_bl
theorem q_str {i : Str} {j pos} : PE X (.Constant (.str i) j pos) (tE X.K cA W (eC (.str i))) := q_c pe_str fun _ _ _ => RD.mk_str
theorem q_non {j pos} : PE X (.Constant .none j pos) (tE X.K cA W (eC .non)) := q_c pe_non fun _ _ _ => RD.mk_non
theorem q_gint {x : Str} {i : Int} {pos : Pos} (hg : Gl X x) (h : ∃ t, X.mg x = some (.int i t)) (hd : (x == ("__debug__" : Str)) = false := by decide) : PE X (.Name x pos) (tE X.K cA W (eC (.int i))) :=
  let ⟨t, hm⟩ := h; q_c (v := .int i) (pe_glob hg hm ⟨t, rfl⟩ hd) fun _ _ _ => RD.mk_int
theorem q_gstr {x : Str} {i : Str} {pos : Pos} (hg : Gl X x) (h : ∃ t, X.mg x = some (.str i t)) (hd : (x == ("__debug__" : Str)) = false := by decide) : PE X (.Name x pos) (tE X.K cA W (eC (.str i))) :=
  let ⟨t, hm⟩ := h; q_c (v := .str i) (pe_glob hg hm ⟨t, rfl⟩ hd) fun _ _ _ => RD.mk_str

/-- an operator by values -/
structure O2 (X : Cx) (f : Value → Value → Sem Value) (g : Sto → D → D → Option D) : Prop where
  ex : ∃ r : R2, OpR X f r ∧ ∀ (cA : Str → Addr) (B : Addr → Prop) (ι : List Addr) (S : Sto) (H : Hp) (x y : V) (a b d : D) (Q : VK), RS X.K cA B ι S H → RD X.K cA B ι H a x → RD X.K cA B ι H b y → g S a b = some d →
    (∀ v H', Same H H' → RD X.K cA B ι H' d v → Q v H') → r x y H Q
variable {a b c : Expr} {ma mb mc : ME} {pos : Pos} {g : Sto → D → D → Option D}
theorem po_opt {K : PySem.W.Frag} {B : Addr → Prop} {o : Option D} {S : Sto} {ι : List Addr} {σ : L2.St} {H : Hp} {Q : VK} (h : PoE K cA W B (opt o S) ι σ H Q) (rs : RS K cA B ι S H) : ∃ d, o = some d ∧ ∀ v H', Same H H' → RD K cA B ι H' d v → Q v H' := by
  cases o with
  | none => exact h.elim
  | some d => exact ⟨d, rfl, fun v H' sm rd => h ι v H' (Fr.same sm) (rs.same sm) rd⟩
theorem use2 {f : Value → Value → Sem Value} {r : R2} (hr : ∀ (cA : Str → Addr) (B : Addr → Prop) (ι : List Addr) (S : Sto) (H : Hp) (x y : V) (a b d : D) (Q : VK), RS X.K cA B ι S H → RD X.K cA B ι H a x → RD X.K cA B ι H b y → g S a b = some d →
    (∀ v H', Same H H' → RD X.K cA B ι H' d v → Q v H') → r x y H Q) : ∀ σ H Q, tE X.K cA W (e2 g ma mb) σ H Q → tOp r (tE X.K cA W ma) (tE X.K cA W mb) σ H Q := fun σ H Q ⟨B, ι, e, S, re, p⟩ =>
  .of re (po_bind re p fun ι1 v1 H1 d1 S1 f1 r1 rd1 p1 => .of r1 (po_bind r1 p1 fun ι2 v2 H2 d2 S2 f2 r2 rd2 p2 => by
    obtain ⟨d, hd, q⟩ := po_opt p2 r2.rs
    exact hr cA B ι2 S2 H2 v1 v2 d1 d2 d Q r2.rs (RD.fr f2 _ _ rd1) rd2 hd q))
theorem q_op {op : Operator} (ho : O2 X (binaryOp op) g) (ha : PE X a (tE X.K cA W ma)) (hb : PE X b (tE X.K cA W mb)) : PE X (.BinOp a op b pos) (tE X.K cA W (e2 g ma mb)) :=
  let ⟨r, h1, h2⟩ := ho.ex; PEi (pe_op h1 ha hb) (use2 (f := binaryOp op) h2)
theorem q_cmp {op : CmpOp} (ho : O2 X (compareOp op) g) (ha : PE X a (tE X.K cA W ma)) (hb : PE X b (tE X.K cA W mb)) (hm : behindInMarks op b = false := by first | rfl | exact nomark _) : PE X (.Compare a [op] [b] pos) (tE X.K cA W (e2 g ma mb)) :=
  let ⟨r, h1, h2⟩ := ho.ex; PEi (pe_cmpR h1 ha hb hm) (use2 (f := compareOp op) h2)
theorem useT {t : TE} (h : ∀ σ H Q, tE X.K cA W ma σ H Q → t σ H Q) : ∀ σ H Q, tT X.K cA W (tOf ma) σ H Q → tTest t σ H Q := fun σ H Q ⟨B, ι, e, S, re, p⟩ =>
  h σ H _ (.of re (po_bindB re p fun ι1 v1 H1 d1 S1 f1 r1 rd1 p1 => by
    cases d1 with
    | bl k =>
      refine ⟨k, rd1.bl, p1 ι1 H1 Fr.refl r1.rs⟩
    | _ => exact p1.elim))
theorem k_cmp {op : CmpOp} (ho : O2 X (compareOp op) g) (ha : PE X a (tE X.K cA W ma)) (hb : PE X b (tE X.K cA W mb)) (hm : behindInMarks op b = false := by first | rfl | exact nomark _) : PT X (.Compare a [op] [b] pos) (tT X.K cA W (tOf (e2 g ma mb))) :=
  let ⟨r, h1, h2⟩ := ho.ex; PTi (pt_cmpR h1 ha hb hm) (useT (use2 (f := compareOp op) h2))
/-- an expression whose value is True or False, as a test -/
theorem k_val {e : Expr} (h : PE X e (tE X.K cA W ma)) (he : ∀ whole, isTrue e X.env whole = (do let v ← whole; standAt e.pos; holding [v] (truthy v)) := by intro _; rfl) : PT X e (tT X.K cA W (tOf ma)) :=
  PTi (pt_val h he) (useT fun _ _ _ h => h)
variable {xa xb : MB} {rest : List Expr}
theorem k_not (ha : PT X a (tT X.K cA W xa)) : PT X (.UnaryOp .Not a pos) (tT X.K cA W (tNo xa)) := PTi (pt_not ha) fun σ H Q ⟨B, ι, e, S, re, p⟩ =>
  .of re (poB_bindB re p fun ι1 H1 b S1 f1 r1 p1 => p1 ι1 H1 Fr.refl r1.rs)
theorem w_and1 (ha : PT X a (tT X.K cA W xa)) : PW X (.BoolOp .And [a] pos) (tT X.K cA W xa) := pw_and1 ha
theorem w_or1 (ha : PT X a (tT X.K cA W xa)) : PW X (.BoolOp .Or [a] pos) (tT X.K cA W xa) := pw_or1 ha
theorem w_and (ha : PT X a (tT X.K cA W xa)) (hb : PW X (.BoolOp .And (b :: rest) pos) (tT X.K cA W xb)) : PW X (.BoolOp .And (a :: b :: rest) pos) (tT X.K cA W (tAn xa xb)) := PWi (pw_and ha hb) fun σ H Q ⟨B, ι, e, S, re, p⟩ =>
  .of re (poB_bindB re p fun ι1 H1 b S1 f1 r1 p1 => by
    cases b with
    | true => exact .of r1 p1
    | false => exact p1 ι1 H1 Fr.refl r1.rs)
theorem w_or (ha : PT X a (tT X.K cA W xa)) (hb : PW X (.BoolOp .Or (b :: rest) pos) (tT X.K cA W xb)) : PW X (.BoolOp .Or (a :: b :: rest) pos) (tT X.K cA W (tO xa xb)) := PWi (pw_or ha hb) fun σ H Q ⟨B, ι, e, S, re, p⟩ =>
  .of re (poB_bindB re p fun ι1 H1 b S1 f1 r1 p1 => by
    cases b with
    | false => exact .of r1 p1
    | true => exact p1 ι1 H1 Fr.refl r1.rs)
theorem q_if {t : Expr} (ht : PT X t (tT X.K cA W xa)) (ha : PE X a (tE X.K cA W ma)) (hb : PE X b (tE X.K cA W mb)) : PE X (.IfExp t a b pos) (tE X.K cA W (eIf xa ma mb)) := PEi (pe_ifExp ht ha hb) fun σ H Q ⟨B, ι, e, S, re, p⟩ =>
  .of re (poB_bind re p fun ι1 H1 b S1 f1 r1 p1 => by
    cases b with
    | true => exact .of r1 p1
    | false => exact .of r1 p1)
theorem q_not (ha : PE X a (tE X.K cA W ma)) : PE X (.UnaryOp .Not a pos) (tE X.K cA W (eNo ma)) := PEi (pe_not ha) fun σ H Q ⟨B, ι, e, S, re, p⟩ =>
  .of re (po_bind re p fun ι1 v1 H1 d1 S1 f1 r1 rd1 p1 => by
    cases d1 with
    | bl k => exact ⟨k, rd1.bl, p1 ι1 _ H1 Fr.refl r1.rs RD.mk_bl⟩
    | _ => exact p1.elim)
theorem q_one {op : BoolOp} (ha : PE X a (tE X.K cA W ma)) : PE X (.BoolOp op [a] pos) (tE X.K cA W ma) := pe_one ha
theorem q_and (ha : PE X a (tE X.K cA W ma)) (hb : PE X (.BoolOp .And (b :: rest) pos) (tE X.K cA W mb)) : PE X (.BoolOp .And (a :: b :: rest) pos) (tE X.K cA W (eAn ma mb)) := PEi (pe_and ha hb) fun σ H Q ⟨B, ι, e, S, re, p⟩ =>
  .of re (po_bind re p fun ι1 v1 H1 d1 S1 f1 r1 rd1 p1 => by
    cases d1 with
    | bl k =>
      refine ⟨k, rd1.bl, ?_⟩
      cases k with
      | true => exact .of r1 p1
      | false => exact p1 ι1 _ H1 Fr.refl r1.rs RD.mk_bl
    | _ => exact p1.elim)
theorem q_or (ha : PE X a (tE X.K cA W ma)) (hb : PE X (.BoolOp .Or (b :: rest) pos) (tE X.K cA W mb)) : PE X (.BoolOp .Or (a :: b :: rest) pos) (tE X.K cA W (eO ma mb)) := PEi (pe_or ha hb) fun σ H Q ⟨B, ι, e, S, re, p⟩ =>
  .of re (po_bind re p fun ι1 v1 H1 d1 S1 f1 r1 rd1 p1 => by
    cases d1 with
    | bl k =>
      refine ⟨k, rd1.bl, ?_⟩
      cases k with
      | false => exact .of r1 p1
      | true => exact p1 ι1 _ H1 Fr.refl r1.rs RD.mk_bl
    | _ => exact p1.elim)
variable {es : List Expr} {xs : MA}
theorem a_nil : PA X [] (tA X.K cA W aN) := PAi pa_nil fun σ H Q ⟨B, ι, e, S, re, p⟩ => p ι [] H Fr.refl re.rs RDs.nil
theorem a_cons (ha : PE X a (tE X.K cA W ma)) (hr : PA X es (tA X.K cA W xs)) (hs : starEach (a :: es) X.env = (false, eval a X.env) :: starEach es X.env := by rfl) : PA X (a :: es) (tA X.K cA W (aC ma xs)) := PAi (pa_cons ha hr hs) fun σ H Q ⟨B, ι, e, S, re, p⟩ =>
  .of re (po_bindA re p fun ι1 v1 H1 d1 S1 f1 r1 rd1 p1 => .of r1 (poA_bindA r1 p1 fun ι2 vs2 H2 ds2 S2 f2 r2 rd2 p2 => p2 ι2 _ H2 Fr.refl r2.rs (.cons (RD.fr f2 _ _ rd1) rd2)))
theorem sizeL : (sizeLine : Nat) = 16777216 := sizeLine_eq
theorem same_new {H : Hp} {p : Addr} {o : HO} (h : H p = none) : Same H (upd H p o) := fun b x e => by
  rw [upd_ne (ne_of_none e h)]
  exact e
theorem not_B {K : PySem.W.Frag} {B : Addr → Prop} {ι : List Addr} {S : Sto} {H : Hp} (r : RS K cA B ι S H) {p : Addr} (h : H p = none) : ¬ B p := fun m => by
  obtain ⟨_, o, e⟩ := r.nB p m
  rw [h] at e; cases e
theorem not_in {K : PySem.W.Frag} {B : Addr → Prop} {ι : List Addr} {S : Sto} {H : Hp} (r : RS K cA B ι S H) {p : Addr} (h : H p = none) : p ∉ ι := fun m => by
  obtain ⟨o, e⟩ := r.there m
  rw [h] at e; cases e
end
end DL

/-! The data layer: operators. -/
namespace DL
open PySem PySem.Spec PyProof.Rows L2

def view (S : Sto) : D → D
  | .obj n => match S[n]? with
    | some (.lst ds) => .lst ds
    | some (.dct ks ds) => .dct ks ds
    | _ => .obj n
  | .scr ds => .lst ds
  | d => d
/-- not a list of the module -/
def noS : D → Bool
  | .scr _ => false
  | _ => true
section
variable {X : Cx} {K : PySem.W.Frag} {cA : Str → Addr} {W : WX} {B : Addr → Prop} {ι : List Addr} {S : Sto} {H : Hp}
theorem v_lstR (rs : RS K cA B ι S H) {d : D} {v : V} {ds : List D} (rd : RD K cA B ι H d v) (e : view S d = .lst ds) (hn : noS d = true) : ∃ a xs, v = .ref a ∧ H a = some (.lst xs) ∧ RDs K cA B ι H ds xs := by
  cases d with
  | obj n =>
    rw [view] at e
    split at e
    · rename_i es q
      cases e
      obtain ⟨a, h1, xs, h2, h3⟩ := rs.at_ n _ q
      obtain ⟨a', rfl, h4⟩ := rd.obj
      rw [h1] at h4; cases h4
      exact ⟨a, xs, rfl, h2, h3⟩
    · cases e
    · cases e
  | lst es =>
    cases e
    obtain ⟨a, xs, rfl, h, r⟩ := rd.lst
    exact ⟨a, xs, rfl, h.2.2, r⟩
  | scr es => cases hn
  | _ => cases e
theorem v_lst (rs : RS K cA B ι S H) {d : D} {v : V} {ds : List D} (rd : RD K cA B ι H d v) (e : view S d = .lst ds) : ∃ a xs, v = .ref a ∧ SqL K H a xs ∧ RDs K cA B ι H ds xs := by
  by_cases hn : noS d = true
  · obtain ⟨a, xs, h1, h2, h3⟩ := v_lstR rs rd e hn
    exact ⟨a, xs, h1, .inl (.inl h2), h3⟩
  · cases d with
    | scr es =>
      cases e
      obtain ⟨a, xs, rfl, h, r⟩ := rd.scr
      exact ⟨a, xs, rfl, h.sq, r⟩
    | _ => exact absurd rfl hn
theorem v_dct (rs : RS K cA B ι S H) {d : D} {v : V} {ks : List Key} {ds : List D} (rd : RD K cA B ι H d v) (e : view S d = .dct ks ds) : ∃ a xs, v = .ref a ∧ H a = some (.dK (ks.zip xs)) ∧ ks.length = xs.length ∧ RDs K cA B ι H ds xs := by
  cases d with
  | obj n =>
    rw [view] at e
    split at e
    · cases e
    · rename_i es q
      cases e
      obtain ⟨a, h1, xs, h2, h3, h5⟩ := rs.at_ n _ q
      obtain ⟨a', rfl, h4⟩ := rd.obj
      rw [h1] at h4; cases h4
      exact ⟨a, xs, rfl, h2, h3, h5⟩
    · cases e
  | dct ks' es =>
    cases e
    obtain ⟨a, xs, rfl, h1, h2, h3, h4, r⟩ := rd.dct
    exact ⟨a, xs, rfl, h3, h4, r⟩
  | _ => cases e
theorem view_ne {d : D} {r : D} (e : view S d = r) (h1 : ∀ ds, r ≠ .lst ds) (h2 : ∀ ks ds, r ≠ .dct ks ds) : d = r := by
  cases d with
  | obj n =>
    rw [view] at e
    split at e
    · exact absurd e.symm (h1 _)
    · exact absurd e.symm (h2 _ _)
    · exact e
  | scr ds => exact absurd e.symm (h1 _)
  | _ => exact e
theorem v_int {d : D} {v : V} {i : Int} (rd : RD K cA B ι H d v) (e : view S d = .int i) : v = .int i := by
  have := view_ne e (by intro _ z; cases z) (by intro _ _ z; cases z); subst this; exact rd.int
theorem v_str {d : D} {v : V} {i : Str} (rd : RD K cA B ι H d v) (e : view S d = .str i) : v = .str i := by
  have := view_ne e (by intro _ z; cases z) (by intro _ _ z; cases z); subst this; exact rd.str
theorem v_bl {d : D} {v : V} {i : Bool} (rd : RD K cA B ι H d v) (e : view S d = .bl i) : v = .bl i := by
  have := view_ne e (by intro _ z; cases z) (by intro _ _ z; cases z); subst this; exact rd.bl
theorem v_non {d : D} {v : V} (rd : RD K cA B ι H d v) (e : view S d = .non) : v = .non := by
  have := view_ne e (by intro _ z; cases z) (by intro _ _ z; cases z); subst this; exact rd.non
theorem v_tup {d : D} {v : V} {ds : List D} (rd : RD K cA B ι H d v) (e : view S d = .tup ds) : ∃ a xs, v = .ref a ∧ FT K B ι H a xs ∧ RDs K cA B ι H ds xs := by
  have := view_ne e (by intro _ z; cases z) (by intro _ _ z; cases z); subst this; exact rd.tup

/-- a new thing that stands still -/
theorem new_tup (rs : RS K cA B ι S H) {p : Addr} (np : H p = none) {ds : List D} {xs : List V} (r : RDs K cA B ι H ds xs) : RD K cA B ι (upd H p (.tup xs)) (.tup ds) (.ref p) :=
  .mk_tup (.inl ⟨not_in rs np, not_B rs np, .inl upd_same⟩) (RDs.fr (Fr.same (same_new np)) _ _ r)
theorem new_lst (rs : RS K cA B ι S H) {p : Addr} (np : H p = none) {ds : List D} {xs : List V} (r : RDs K cA B ι H ds xs) : RD K cA B ι (upd H p (.lst xs)) (.lst ds) (.ref p) :=
  .mk_lst ⟨not_in rs np, not_B rs np, upd_same⟩ (RDs.fr (Fr.same (same_new np)) _ _ r)
theorem same_refl : Same H H := fun _ _ e => e

/-! ### arithmetic -/
theorem o_mk {f : Value → Value → Sem Value} {g : Sto → D → D → Option D} {r : R2} (h : OpR X f r) (k : ∀ (cA : Str → Addr) (B : Addr → Prop) (ι : List Addr) (S : Sto) (H : Hp) (x y : V) (a b d : D) (Q : VK), RS X.K cA B ι S H → RD X.K cA B ι H a x → RD X.K cA B ι H b y → g S a b = some d →
    (∀ v H', Same H H' → RD X.K cA B ι H' d v → Q v H') → r x y H Q) : O2 X f g := ⟨r, h, k⟩

/-- list + list -/
def rCatL : R2 := fun x y H Q => ∃ l b xs zs, x = .ref l ∧ y = .ref b ∧ Rd H l (.lst xs) ∧ Rd H b (.lst zs) ∧ xs.length + zs.length ≤ sizeLine ∧ ∀ p, H p = none → Q (.ref p) (upd H p (.lst (xs ++ zs)))
theorem lstR {pins : List (Addr × Obj)} {σ : L2.St} {H : Hp} {s : Shared} {p : Addr} {xs : List V} (I : Inv X pins σ H s) (h : Rd H p (.lst xs)) :
    ∃ (its : List Value) (n : Nat), Vals xs its ∧ xs.length = its.length ∧ s.heap.get? p = some { cls := .type "list", data := .seq its.toArray n } := by
  obtain ⟨_, its, n, r, e⟩ := h.ok I.hok
  exact ⟨its, n, r, r.length, e⟩
theorem op_catL : OpR X (binaryOp .Add) rCatL := by
  intro pins s σ H x y v u Q I rx ry h
  obtain ⟨l, b, xs, zs, rfl, rfl, hH, hB, hz, q⟩ := h
  cases rx
  cases ry
  obtain ⟨its, n, r, hl, e⟩ := lstR I hH
  obtain ⟨its2, n2, r2, hl2, e2⟩ := lstR I hB
  refine PySem.P.add_list e e2 ?_ (by rw [List.size_toArray, List.size_toArray]; omega)
  have ea : its.toArray ++ its2.toArray = (its ++ its2).toArray := by simp
  rw [ea]
  exact ⟨.ref _, _, I.lnew (t' := s.toks) (r.append r2) (by rw [List.length_append]; omega), rfl, q _ I.fresh⟩

def gAdd (S : Sto) (a b : D) : Option D := match view S a, view S b with
  | .int i, .int j => some (.int (i + j))
  | .str x, .str y => if x.length + y.length ≤ 16777216 then some (.str (x ++ y)) else none
  | .tup xs, .tup ys => if xs.length + ys.length ≤ 16777216 then some (.tup (xs ++ ys)) else none
  | .lst xs, .lst ys => if (xs.length + ys.length ≤ 16777216 ∧ noS a = true) ∧ noS b = true then some (.lst (xs ++ ys)) else none
  | _, _ => none
theorem o_add : O2 X (binaryOp .Add) gAdd := o_mk (op_add.or (op_add_str.or (op_catA.or op_catL))) fun cA B ι S H x y a b d Q rs ra rb hg q => by
  unfold gAdd at hg
  split at hg
  · rename_i i j e1 e2
    cases hg
    exact .inl ⟨i, j, v_int ra e1, v_int rb e2, q _ H same_refl RD.mk_int⟩
  · rename_i i j e1 e2
    split at hg
    · rename_i hz
      cases hg
      exact .inr (.inl ⟨i, j, v_str ra e1, v_str rb e2, by rw [sizeL]; exact hz, q _ H same_refl RD.mk_str⟩)
    · cases hg
  · rename_i xs ys e1 e2
    split at hg
    · rename_i hz
      cases hg
      obtain ⟨p, us, rfl, h1, r1⟩ := v_tup ra e1
      obtain ⟨p2, us2, rfl, h2, r2⟩ := v_tup rb e2
      refine .inr (.inr (.inl ⟨p, p2, us, us2, rfl, rfl, h1.sq, h2.sq, by rw [sizeL, ← r1.len, ← r2.len]; exact hz, fun z => ?_, fun _ z => ?_, fun _ _ n np => ?_⟩))
      · subst z
        have : xs = [] := by
          have := r1.len
          cases xs with
          | nil => rfl
          | cons _ _ => simp at this
        subst this
        exact q _ H same_refl (.mk_tup h2 r2)
      · subst z
        have : ys = [] := by
          have := r2.len
          cases ys with
          | nil => rfl
          | cons _ _ => simp at this
        subst this
        exact q _ H same_refl (by rw [List.append_nil]; exact .mk_tup h1 r1)
      · exact q _ _ (same_new np) (new_tup rs np (r1.append r2))
    · cases hg
  · rename_i xs ys e1 e2
    split at hg
    · rename_i hz
      cases hg
      obtain ⟨p, us, rfl, h1, r1⟩ := v_lstR rs ra e1 hz.1.2
      obtain ⟨p2, us2, rfl, h2, r2⟩ := v_lstR rs rb e2 hz.2
      exact .inr (.inr (.inr ⟨p, p2, us, us2, rfl, rfl, .inl h1, .inl h2, by rw [sizeL, ← r1.len, ← r2.len]; exact hz.1.1, fun n np => q _ _ (same_new np) (new_lst rs np (r1.append r2))⟩))
    · cases hg
  · cases hg
def gSub (S : Sto) (a b : D) : Option D := match a, b with
  | .int i, .int j => some (.int (i - j))
  | _, _ => none
theorem o_sub : O2 X (binaryOp .Sub) gSub := o_mk op_sub fun cA B ι S H x y a b d Q rs ra rb hg q => by
  unfold gSub at hg
  split at hg
  · cases hg
    exact ⟨_, _, ra.int, rb.int, q _ H same_refl RD.mk_int⟩
  · cases hg
/-- text * n -/
def srep (x : Str) (n : Nat) : Str := ⟨(List.replicate n x.cps.toList).flatten.toArray⟩
theorem foldl_arr (a : Array Nat) : ∀ (n : Nat) (acc : Array Nat), ((List.replicate n a).foldl (· ++ ·) acc).toList = acc.toList ++ (List.replicate n a.toList).flatten
  | 0, acc => by simp
  | n + 1, acc => by
    rw [List.replicate_succ, List.foldl_cons, foldl_arr a n, List.replicate_succ, List.flatten_cons, Array.toList_append, List.append_assoc]
theorem mul_srep (x : Str) (n : Int) : Txt.mul x n = srep x n.toNat := by
  have ext : ∀ a b : Str, a.cps.toList = b.cps.toList → a = b := fun a b h => by
    cases a; cases b; exact congrArg Str.mk (Array.toList_inj.mp h)
  unfold Txt.mul srep
  by_cases h1 : n < 1
  · rw [if_pos h1]
    have : n.toNat = 0 := by omega
    rw [this]; rfl
  · rw [if_neg h1]
    by_cases h2 : (n == 1 || x.length == 0) = true
    · rw [if_pos h2]
      apply ext
      rw [Bool.or_eq_true, beq_iff_eq, beq_iff_eq] at h2
      rcases h2 with rfl | h2
      · simp
      · have : x.cps.toList = [] := by
          apply List.eq_nil_of_length_eq_zero
          rw [Array.length_toList]; exact h2
        simp [this]
    · rw [if_neg h2]
      apply ext
      rw [foldl_arr]; simp
theorem srep_length (x : Str) (n : Nat) : (srep x n).length = n * x.length := by
  show ((List.replicate n x.cps.toList).flatten.toArray).size = _
  rw [List.size_toArray, List.length_flatten, List.map_replicate, List.sum_replicate_nat, Array.length_toList]; rfl
def rRepS : R2 := fun x y H Q => ∃ z k, x = .str z ∧ y = .int k ∧ k < 2 ^ 31 ∧ -(2 ^ 31) < k ∧ k.toNat * z.length ≤ 16777216 ∧ Q (.str (srep z k.toNat)) H
theorem op_repS : OpR X (binaryOp .Mult) rRepS := by
  intro pins s σ H x y v u Q I rx ry h
  obtain ⟨z, k, rfl, rfl, hk, hk2, hz, q⟩ := h
  obtain ⟨t, rfl⟩ := rx
  obtain ⟨t', rfl⟩ := ry
  refine SB.mul ⟨?_, fun h1 h2 => ?_, fun h1 h2 => ?_⟩ fun t2 k2 => ⟨.str _, H, I.tok _, ⟨_, by rw [mul_srep]⟩, q⟩
  · rw [Bool.or_eq_false_iff]
    exact ⟨decide_eq_false (by omega), decide_eq_false (by omega)⟩
  · have hk0 : 0 < k := by omega
    have e : (k.toNat : Int) = k := by omega
    have : (z.length : Int) * k ≤ 16777216 := by
      have : ((k.toNat * z.length : Nat) : Int) ≤ 16777216 := Int.ofNat_le.mpr hz
      rw [Int.natCast_mul, e, Int.mul_comm] at this
      exact this
    have : (z.length : Int) ≤ 16777216 / k := (Int.le_ediv_iff_mul_le hk0).mpr this
    have : (16777216 : Int) / k ≤ (2 ^ 63 - 1) / k := Int.ediv_le_ediv hk0 (by decide)
    omega
  · unfold Builtin.Str.tooLong
    refine decide_eq_false ?_
    rw [sizeL, Nat.mul_comm]
    omega
def gMul (S : Sto) (a b : D) : Option D := match view S a, view S b with
  | .int i, .int j => if (-(2 ^ 64) < i ∧ i < 2 ^ 64) ∨ (-(2 ^ 64) < j ∧ j < 2 ^ 64) then some (.int (i * j)) else none
  | .str x, .int k => if k < 2 ^ 31 ∧ -(2 ^ 31) < k ∧ k.toNat * x.length ≤ 16777216 then some (.str (srep x k.toNat)) else none
  | .tup xs, .int k => if xs ≠ [] ∧ 2 ≤ k ∧ k ≤ 1000 ∧ xs.length ≤ 1000 then some (.tup (List.replicate k.toNat xs).flatten) else none
  | _, _ => none
theorem RDs.rep {ds : List D} {xs : List V} (r : RDs K cA B ι H ds xs) : ∀ n, RDs K cA B ι H (List.replicate n ds).flatten (List.replicate n xs).flatten
  | 0 => RDs.nil
  | n + 1 => by rw [List.replicate_succ, List.replicate_succ, List.flatten_cons, List.flatten_cons]; exact r.append (RDs.rep r n)
end
end DL

/-! The data layer: more operators, comparisons, places, builtins. -/
namespace DL
open PySem PySem.Spec PyProof.Rows L2
section
variable {X : Cx} {K : PySem.W.Frag} {cA : Str → Addr} {W : WX} {B : Addr → Prop} {ι : List Addr} {S : Sto} {H : Hp}
theorem o_mul : O2 X (binaryOp .Mult) gMul := o_mk (op_mul.or (op_repS.or op_repT)) fun cA B ι S H x y a b d Q rs ra rb hg q => by
  unfold gMul at hg
  split at hg
  · rename_i i j e1 e2
    split at hg
    · rename_i hz
      cases hg
      exact .inl ⟨i, j, v_int ra e1, v_int rb e2, hz, q _ H same_refl RD.mk_int⟩
    · cases hg
  · rename_i i j e1 e2
    split at hg
    · rename_i hz
      cases hg
      exact .inr (.inl ⟨i, j, v_str ra e1, v_int rb e2, hz.1, hz.2.1, hz.2.2, q _ H same_refl RD.mk_str⟩)
    · cases hg
  · rename_i xs k e1 e2
    split at hg
    · rename_i hz
      cases hg
      obtain ⟨p, us, rfl, h1, r1⟩ := v_tup ra e1
      refine .inr (.inr ⟨p, k, us, rfl, v_int rb e2, h1.sq, fun z => ?_, hz.2.1, hz.2.2.1, by rw [← r1.len]; exact hz.2.2.2, fun n np => q _ _ (same_new np) (new_tup rs np (r1.rep _))⟩)
      subst z
      refine hz.1 ?_
      have := r1.len
      cases xs with
      | nil => rfl
      | cons _ _ => simp at this
    · cases hg
  · cases hg
def gFdiv (S : Sto) (a b : D) : Option D := match a, b with
  | .int i, .int j => if 0 < j ∧ j < 1073741824 then some (.int (i / j)) else none
  | _, _ => none
theorem o_fdiv : O2 X (binaryOp .FloorDiv) gFdiv := o_mk op_fdiv fun cA B ι S H x y a b d Q rs ra rb hg q => by
  unfold gFdiv at hg
  split at hg
  · split at hg
    · rename_i hz
      cases hg
      exact ⟨_, _, ra.int, rb.int, hz, q _ H same_refl RD.mk_int⟩
    · cases hg
  · cases hg
def gMod (S : Sto) (a b : D) : Option D := match a, b with
  | .int i, .int j => if 0 < j then some (.int (i % j)) else none
  | _, _ => none
theorem o_mod : O2 X (binaryOp .Mod) gMod := o_mk op_mod fun cA B ι S H x y a b d Q rs ra rb hg q => by
  unfold gMod at hg
  split at hg
  · split at hg
    · rename_i hz
      cases hg
      exact ⟨_, _, ra.int, rb.int, hz, q _ H same_refl RD.mk_int⟩
    · cases hg
  · cases hg
def gPow (S : Sto) (a b : D) : Option D := match a, b with
  | .int i, .int j => if 0 ≤ j ∧ j ≤ 1000000 ∧ i.natAbs < 2 ^ 64 then some (.int (i ^ j.toNat)) else none
  | _, _ => none
theorem o_pow : O2 X (binaryOp .Pow) gPow := o_mk op_pow fun cA B ι S H x y a b d Q rs ra rb hg q => by
  unfold gPow at hg
  split at hg
  · split at hg
    · rename_i hz
      cases hg
      exact ⟨_, _, ra.int, rb.int, hz, q _ H same_refl RD.mk_int⟩
    · cases hg
  · cases hg

/-! ### comparisons -/
def gI (p : Int → Int → Bool) (S : Sto) (a b : D) : Option D := match a, b with
  | .int i, .int j => some (.bl (p i j))
  | _, _ => none
theorem o_I {f : Value → Value → Sem Value} {p : Int → Int → Bool} (h : OpR X f (rI0 fun i j => .bl (p i j))) : O2 X f (gI p) := o_mk h fun cA B ι S H x y a b d Q rs ra rb hg q => by
  unfold gI at hg
  split at hg
  · cases hg
    exact ⟨_, _, ra.int, rb.int, q _ H same_refl RD.mk_bl⟩
  · cases hg
def iLt (i j : Int) : Bool := decide (i < j)
def iLe (i j : Int) : Bool := decide (i ≤ j)
def iGt (i j : Int) : Bool := decide (j < i)
def iGe (i j : Int) : Bool := decide (j ≤ i)
theorem o_gtI : O2 X (compareOp .Gt) (gI iGt) := o_I op_gt
theorem o_geI : O2 X (compareOp .GtE) (gI iGe) := o_I op_ge
/-- <, <= of numbers, of one sign texts -/
def gLt (S : Sto) (a b : D) : Option D := match a, b with
  | .int i, .int j => some (.bl (decide (i < j)))
  | .str x, .str y => some (.bl (decide (x.cps.toList < y.cps.toList)))
  | _, _ => none
theorem o_lt : O2 X (compareOp .Lt) gLt := o_mk (op_lt.or op_lt_str) fun cA B ι S H x y a b d Q rs ra rb hg q => by
  unfold gLt at hg
  split at hg
  · cases hg
    exact .inl ⟨_, _, ra.int, rb.int, q _ H same_refl RD.mk_bl⟩
  · cases hg
    exact .inr ⟨_, _, ra.str, rb.str, q _ H same_refl RD.mk_bl⟩
  · cases hg
def gLe (S : Sto) (a b : D) : Option D := match a, b with
  | .int i, .int j => some (.bl (decide (i ≤ j)))
  | .str x, .str y => some (.bl (!decide (y.cps.toList < x.cps.toList)))
  | _, _ => none
theorem o_le : O2 X (compareOp .LtE) gLe := o_mk (op_le.or op_le_str) fun cA B ι S H x y a b d Q rs ra rb hg q => by
  unfold gLe at hg
  split at hg
  · cases hg
    exact .inl ⟨_, _, ra.int, rb.int, q _ H same_refl RD.mk_bl⟩
  · cases hg
    exact .inr ⟨_, _, ra.str, rb.str, q _ H same_refl RD.mk_bl⟩
  · cases hg

/-! ### == -/
mutual
def pd : D → Option PyData
  | .non => some .none
  | .bl b => some (.bool b)
  | .int i => some (.int i)
  | .str x => some (.str x)
  | .tup ds => (pds ds).map .tuple
  | .lst ds => (pds ds).map .list
  | .dct _ _ => none
  | .obj _ => none
  | .scr ds => (pds ds).map .list
  | .exn _ => none
def pds : List D → Option (List PyData)
  | [] => some []
  | d :: ds => match pd d, pds ds with | some x, some xs => some (x :: xs) | _, _ => none
end
mutual
theorem pd_dp : ∀ (d : D) (v : V) (p : PyData), RD K cA B ι H d v → pd d = some p → Dp K H v p
  | .non, v, p, h, e => by rw [pd] at e; cases e; rw [h.non]; exact .non
  | .bl b, v, p, h, e => by rw [pd] at e; cases e; rw [h.bl]; exact .bl b
  | .int b, v, p, h, e => by rw [pd] at e; cases e; rw [h.int]; exact .int b
  | .str b, v, p, h, e => by rw [pd] at e; cases e; rw [h.str]; exact .str b
  | .tup ds, v, p, h, e => by
    rw [pd] at e
    cases q : pds ds with
    | none => rw [q] at e; cases e
    | some ps =>
      rw [q] at e; cases e
      obtain ⟨a, xs, rfl, h1, r⟩ := h.tup
      exact .tup h1.sq (pds_dp ds xs ps r q)
  | .lst ds, v, p, h, e => by
    rw [pd] at e
    cases q : pds ds with
    | none => rw [q] at e; cases e
    | some ps =>
      rw [q] at e; cases e
      obtain ⟨a, xs, rfl, h1, r⟩ := h.lst
      exact .lst h1.sq (pds_dp ds xs ps r q)
  | .dct _ _, v, p, h, e => by rw [pd] at e; cases e
  | .obj _, v, p, h, e => by rw [pd] at e; cases e
  | .exn _, v, p, h, e => by rw [pd] at e; cases e
  | .scr ds, v, p, h, e => by
    rw [pd] at e
    cases q : pds ds with
    | none => rw [q] at e; cases e
    | some ps =>
      rw [q] at e; cases e
      obtain ⟨a, xs, rfl, h1, r⟩ := h.scr
      exact .lst h1.sq (pds_dp ds xs ps r q)
theorem pds_dp : ∀ (ds : List D) (vs : List V) (ps : List PyData), RDs K cA B ι H ds vs → pds ds = some ps → DpAll K H vs ps
  | [], vs, ps, h, e => by rw [pds] at e; cases e; rw [h.nil_inv]; exact .nil
  | d :: ds, vs, ps, h, e => by
    rw [pds] at e
    obtain ⟨v, r, rfl, h1, h2⟩ := h.cons_inv
    cases q1 : pd d with
    | none => rw [q1] at e; cases e
    | some p1 =>
      cases q2 : pds ds with
      | none => rw [q1, q2] at e; cases e
      | some p2 =>
        rw [q1, q2] at e; cases e
        exact .cons (pd_dp d v p1 h1 q1) (pds_dp ds r p2 h2 q2)
end
theorem view_dp (rs : RS K cA B ι S H) {d : D} {v : V} {p : PyData} (h : RD K cA B ι H d v) (e : pd (view S d) = some p) : Dp K H v p := by
  cases q : view S d with
  | lst ds =>
    rw [q, pd] at e
    cases q2 : pds ds with
    | none => rw [q2] at e; cases e
    | some ps =>
      rw [q2] at e; cases e
      obtain ⟨a, xs, rfl, h1, r⟩ := v_lst rs h q
      exact .lst h1 (pds_dp ds xs ps r q2)
  | dct ks ds => rw [q, pd] at e; cases e
  | obj n => rw [q, pd] at e; cases e
  | _ =>
    have := view_ne q (by intro _ z; cases z) (by intro _ _ z; cases z)
    subst this
    rw [q] at e
    exact pd_dp _ _ _ h e
def fla : D → Option V
  | .non => some .non | .bl b => some (.bl b) | .int i => some (.int i) | .str x => some (.str x) | _ => none
theorem fla_V {a : D} {x v : V} (ra : RD K cA B ι H a x) (h : fla a = some v) : x = v ∧ flatV x = true := by
  cases a with
  | non => cases h; rw [ra.non]; exact ⟨rfl, rfl⟩
  | bl j => cases h; rw [ra.bl]; exact ⟨rfl, rfl⟩
  | int j => cases h; rw [ra.int]; exact ⟨rfl, rfl⟩
  | str j => cases h; rw [ra.str]; exact ⟨rfl, rfl⟩
  | _ => cases h
/-- equal? -/
def deq0 (a b : D) : Option Bool := match pd a, pd b with
  | some d, some e => if SeqAt.shaped d = true ∧ SeqAt.shaped e = true then some (PyData.eqv d e) else none
  | _, _ => none
def deq (a b : D) : Option Bool := match fla a, fla b with
  | some x, some y => if scal x y = true then some (decide (x = y)) else deq0 a b
  | _, _ => deq0 a b
def gEq (S : Sto) (a b : D) : Option D := (deq (view S a) (view S b)).map .bl
def gNe (S : Sto) (a b : D) : Option D := (deq (view S a) (view S b)).map fun k => .bl (!k)
theorem deq_dp (rs : RS K cA B ι S H) {a b : D} {x y : V} {k : Bool} (ra : RD K cA B ι H a x) (rb : RD K cA B ι H b y) (h : deq (view S a) (view S b) = some k) :
    (scal x y = true ∧ decide (x = y) = k) ∨ ∃ d e, Dp K H x d ∧ Dp K H y e ∧ SeqAt.shaped d = true ∧ SeqAt.shaped e = true ∧ PyData.eqv d e = k := by
  have deep : deq0 (view S a) (view S b) = some k → ∃ d e, Dp K H x d ∧ Dp K H y e ∧ SeqAt.shaped d = true ∧ SeqAt.shaped e = true ∧ PyData.eqv d e = k := fun h => by
    unfold deq0 at h
    split at h
    · rename_i d e h1 h2
      split at h
      · rename_i hs
        exact ⟨d, e, view_dp rs ra h1, view_dp rs rb h2, hs.1, hs.2, Option.some.inj h⟩
      · cases h
    · cases h
  have vf : ∀ {c : D} {z v : V}, RD K cA B ι H c z → fla (view S c) = some v → z = v := fun {c z v} r q => by
    cases e : view S c with
    | lst _ => rw [e] at q; cases q
    | dct _ _ => rw [e] at q; cases q
    | _ =>
      have := view_ne e (by intro _ z; cases z) (by intro _ _ z; cases z)
      subst this
      rw [e] at q
      exact (fla_V r q).1
  unfold deq at h
  split at h
  · rename_i u v h1 h2
    split at h
    · rename_i hs
      have := vf ra h1
      have := vf rb h2
      subst x y
      exact .inl ⟨hs, Option.some.inj h⟩
    · exact .inr (deep h)
  · exact .inr (deep h)
theorem o_eq (hu : X.A.units + 64 < cLine) : O2 X (compareOp .Eq) gEq := o_mk (op_eq.or (op_eqD hu)) fun cA B ι S H x y a b d Q rs ra rb hg q => by
  unfold gEq at hg
  cases h : deq (view S a) (view S b) with
  | none => rw [h] at hg; cases hg
  | some k =>
    rw [h] at hg; cases hg
    rcases deq_dp rs ra rb h with ⟨h1, rfl⟩ | ⟨p, e, h1, h2, h3, h4, rfl⟩
    · exact .inl ⟨h1, q _ H same_refl RD.mk_bl⟩
    · exact .inr ⟨p, e, h1, h2, h3, h4, q _ H same_refl RD.mk_bl⟩
theorem o_ne (hu : X.A.units + 64 < cLine) : O2 X (compareOp .NotEq) gNe := o_mk (op_ne.or (op_neD hu)) fun cA B ι S H x y a b d Q rs ra rb hg q => by
  unfold gNe at hg
  cases h : deq (view S a) (view S b) with
  | none => rw [h] at hg; cases hg
  | some k =>
    rw [h] at hg; cases hg
    rcases deq_dp rs ra rb h with ⟨h1, rfl⟩ | ⟨p, e, h1, h2, h3, h4, rfl⟩
    · exact .inl ⟨h1, q _ H same_refl RD.mk_bl⟩
    · exact .inr ⟨p, e, h1, h2, h3, h4, q _ H same_refl RD.mk_bl⟩

/-! ### is -/
/-- the same None, True, False? -/
def dis (a : D) : D → Option Bool
  | .non => some (match a with | .non => true | _ => false)
  | .bl k => some (match a with | .bl j => j == k | _ => false)
  | _ => none
def rIs (neg : Bool) : R2 := fun x y H Q => (y = .non ∨ ∃ k, y = .bl k) ∧ Q (.bl (if neg then !decide (x = y) else decide (x = y))) H
theorem is_dec {x y : V} {v u : Value} (rx : RelV x v) (ry : RelV y u) (hy : y = .non ∨ ∃ k, y = .bl k) : plainIs v u = true ∧ (v == u) = decide (x = y) := by
  rcases hy with rfl | ⟨k, rfl⟩ <;> cases ry <;> (cases x <;> first
    | (cases rx; exact ⟨rfl, rfl⟩)
    | (rename_i b; cases rx; cases b <;> cases k <;> exact ⟨rfl, by first | rfl | decide⟩)
    | (obtain ⟨t, rfl⟩ := rx; exact ⟨rfl, rfl⟩))
theorem op_isV : OpR X (compareOp .Is) (rIs false) := by
  intro pins s σ H x y v u Q I rx ry h
  obtain ⟨hy, q⟩ := h
  obtain ⟨h1, h2⟩ := is_dec rx ry hy
  exact wpAny_is_plain h1 (by rw [h2]; exact ⟨.bl _, H, I, rfl, q⟩)
theorem op_isNotV : OpR X (compareOp .IsNot) (rIs true) := by
  intro pins s σ H x y v u Q I rx ry h
  obtain ⟨hy, q⟩ := h
  obtain ⟨h1, h2⟩ := is_dec rx ry hy
  exact wpAny_isNot_plain h1 (by rw [h2]; exact ⟨.bl _, H, I, rfl, q⟩)
theorem dis_V {a b : D} {x y : V} {k : Bool} (ra : RD K cA B ι H a x) (rb : RD K cA B ι H b y) (h : dis a b = some k) : (y = .non ∨ ∃ k, y = .bl k) ∧ decide (x = y) = k := by
  cases b with
  | non =>
    have := rb.non
    subst this
    refine ⟨.inl rfl, ?_⟩
    have h := Option.some.inj h
    subst h
    cases a with
    | non => rw [ra.non]; rfl
    | bl j => rw [ra.bl]; rfl
    | int j => rw [ra.int]; rfl
    | str j => rw [ra.str]; rfl
    | tup j => obtain ⟨_, _, rfl, _⟩ := ra.tup; rfl
    | lst j => obtain ⟨_, _, rfl, _⟩ := ra.lst; rfl
    | dct j _ => obtain ⟨_, _, rfl, _⟩ := ra.dct; rfl
    | obj j => obtain ⟨_, rfl, _⟩ := ra.obj; rfl
    | scr j => obtain ⟨_, _, rfl, _⟩ := ra.scr; rfl
    | exn j => obtain ⟨_, rfl, _⟩ := ra.exn; rfl
  | bl z =>
    have := rb.bl
    subst this
    refine ⟨.inr ⟨_, rfl⟩, ?_⟩
    have h := Option.some.inj h
    subst h
    cases a with
    | non => rw [ra.non]; rfl
    | bl j => rw [ra.bl]; cases j <;> cases z <;> rfl
    | int j => rw [ra.int]; rfl
    | str j => rw [ra.str]; rfl
    | tup j => obtain ⟨_, _, rfl, _⟩ := ra.tup; rfl
    | lst j => obtain ⟨_, _, rfl, _⟩ := ra.lst; rfl
    | dct j _ => obtain ⟨_, _, rfl, _⟩ := ra.dct; rfl
    | obj j => obtain ⟨_, rfl, _⟩ := ra.obj; rfl
    | scr j => obtain ⟨_, _, rfl, _⟩ := ra.scr; rfl
    | exn j => obtain ⟨_, rfl, _⟩ := ra.exn; rfl
  | _ => cases h
def gIs (S : Sto) (a b : D) : Option D := (dis a b).map .bl
def gIsn (S : Sto) (a b : D) : Option D := (dis a b).map fun k => .bl (!k)
theorem o_is : O2 X (compareOp .Is) gIs := o_mk op_isV fun cA B ι S H x y a b d Q rs ra rb hg q => by
  unfold gIs at hg
  cases h : dis a b with
  | none => rw [h] at hg; cases hg
  | some k =>
    rw [h] at hg; cases hg
    obtain ⟨h1, h2⟩ := dis_V ra rb h
    exact ⟨h1, by rw [h2]; exact q _ H same_refl RD.mk_bl⟩
theorem o_isn : O2 X (compareOp .IsNot) gIsn := o_mk op_isNotV fun cA B ι S H x y a b d Q rs ra rb hg q => by
  unfold gIsn at hg
  cases h : dis a b with
  | none => rw [h] at hg; cases hg
  | some k =>
    rw [h] at hg; cases hg
    obtain ⟨h1, h2⟩ := dis_V ra rb h
    exact ⟨h1, by rw [h2]; exact q _ H same_refl RD.mk_bl⟩

/-! ### in -/
def flas : List D → Option (List V)
  | [] => some []
  | d :: ds => match fla d, flas ds with | some x, some xs => some (x :: xs) | _, _ => none
theorem flas_V : ∀ {ds : List D} {xs vs : List V}, RDs K cA B ι H ds xs → flas ds = some vs → xs = vs ∧ xs.all flatV = true
  | [], xs, vs, r, h => by cases h; rw [r.nil_inv]; exact ⟨rfl, rfl⟩
  | d :: ds, xs, vs, r, h => by
    obtain ⟨v, t, rfl, h1, h2⟩ := r.cons_inv
    unfold flas at h
    split at h
    · rename_i y ys e1 e2
      cases h
      obtain ⟨rfl, f1⟩ := fla_V h1 e1
      obtain ⟨rfl, f2⟩ := flas_V h2 e2
      exact ⟨rfl, by rw [List.all_cons, f1, f2]; rfl⟩
    · cases h
/-- text in text -/
def sin (x y : Str) : Bool := if x.length = 1 then decide (x.cps.getD 0 0 ∈ y.cps.toList) else !(Builtin.Str.occurrences y x 0 y.length 1).isEmpty
theorem one_sign {x : Str} (h : x.length = 1) : x = ⟨#[x.cps.getD 0 0]⟩ := by
  obtain ⟨⟨l⟩⟩ := x
  have h' : l.length = 1 := h
  match l, h' with
  | [c], _ => rfl
def gIn (S : Sto) (a b : D) : Option D := match a, view S b with
  | .str x, .str y => some (.bl (sin x y))
  | a, .tup ds => match fla a, flas ds with | some v, some vs => some (.bl (inV v vs)) | _, _ => none
  | a, .lst ds => match fla a, flas ds with | some v, some vs => some (.bl (inV v vs)) | _, _ => none
  | _, _ => none
theorem o_in : O2 X (compareOp .In) gIn := o_mk (op_in_sign.or (op_in_str.or op_in_seq)) fun cA B ι S H x y a b d Q rs ra rb hg q => by
  unfold gIn at hg
  split at hg
  · rename_i z w e2
    cases hg
    unfold sin at q
    by_cases h : z.length = 1
    · rw [if_pos h] at q
      exact .inl ⟨_, w, by rw [ra.str, ← one_sign h], v_str rb e2, q _ H same_refl RD.mk_bl⟩
    · rw [if_neg h] at q
      exact .inr (.inl ⟨z, w, ra.str, v_str rb e2, q _ H same_refl RD.mk_bl⟩)
  · rename_i ds _ e2
    split at hg
    · rename_i v vs h1 h2
      cases hg
      obtain ⟨p, us, rfl, h3, r⟩ := v_tup rb e2
      obtain ⟨rfl, f1⟩ := fla_V ra h1
      obtain ⟨rfl, f2⟩ := flas_V r h2
      exact .inr (.inr ⟨p, us, rfl, .inr h3.sq, f1, f2, q _ H same_refl RD.mk_bl⟩)
    · cases hg
  · rename_i ds _ e2
    split at hg
    · rename_i v vs h1 h2
      cases hg
      obtain ⟨p, us, rfl, h3, r⟩ := v_lst rs rb e2
      obtain ⟨rfl, f1⟩ := fla_V ra h1
      obtain ⟨rfl, f2⟩ := flas_V r h2
      exact .inr (.inr ⟨p, us, rfl, .inl h3, f1, f2, q _ H same_refl RD.mk_bl⟩)
    · cases hg
  · cases hg
def gNin (S : Sto) (a b : D) : Option D := match a, view S b with
  | .str x, .str y => some (.bl (!sin x y))
  | a, .tup ds => match fla a, flas ds with | some v, some vs => some (.bl (!inV v vs)) | _, _ => none
  | a, .lst ds => match fla a, flas ds with | some v, some vs => some (.bl (!inV v vs)) | _, _ => none
  | _, _ => none
theorem o_nin : O2 X (compareOp .NotIn) gNin := o_mk (op_notIn_sign.or (op_notin_str.or op_notIn_seq)) fun cA B ι S H x y a b d Q rs ra rb hg q => by
  unfold gNin at hg
  split at hg
  · rename_i z w e2
    cases hg
    unfold sin at q
    by_cases h : z.length = 1
    · rw [if_pos h] at q
      exact .inl ⟨_, w, by rw [ra.str, ← one_sign h], v_str rb e2, q _ H same_refl RD.mk_bl⟩
    · rw [if_neg h] at q
      exact .inr (.inl ⟨z, w, ra.str, v_str rb e2, q _ H same_refl RD.mk_bl⟩)
  · rename_i ds _ e2
    split at hg
    · rename_i v vs h1 h2
      cases hg
      obtain ⟨p, us, rfl, h3, r⟩ := v_tup rb e2
      obtain ⟨rfl, f1⟩ := fla_V ra h1
      obtain ⟨rfl, f2⟩ := flas_V r h2
      exact .inr (.inr ⟨p, us, rfl, .inr h3.sq, f1, f2, q _ H same_refl RD.mk_bl⟩)
    · cases hg
  · rename_i ds _ e2
    split at hg
    · rename_i v vs h1 h2
      cases hg
      obtain ⟨p, us, rfl, h3, r⟩ := v_lst rs rb e2
      obtain ⟨rfl, f1⟩ := fla_V ra h1
      obtain ⟨rfl, f2⟩ := flas_V r h2
      exact .inr (.inr ⟨p, us, rfl, .inl h3, f1, f2, q _ H same_refl RD.mk_bl⟩)
    · cases hg
  · cases hg

/-! ### places -/
theorem atI_RD {ds : List D} {xs : List V} {i : Int} {d : D} (r : RDs K cA B ι H ds xs) (h : atI ds i = some d) : ∃ v, atI xs i = some v ∧ RD K cA B ι H d v := by
  unfold atI at h ⊢
  rw [← r.len]
  cases e : ixN ds.length i with
  | none => rw [e] at h; cases h
  | some j =>
    rw [e] at h
    exact r.get h
def gIx (S : Sto) (a b : D) : Option D := match view S a, b with
  | .str z, .int i => if z.length ≤ 16777216 then (atI z.cps.toList i).map fun c => .str ⟨#[c]⟩ else none
  | .tup ds, .int i => atI ds i
  | .lst ds, .int i => atI ds i
  | _, _ => none
theorem q_ix {a b : Expr} {ma mb : ME} {pos : Pos} (ha : PE X a (tE X.K cA W ma)) (hb : PE X b (tE X.K cA W mb)) (hs : PlainIx b := by exact fun _ _ => rfl) : PE X (.Subscript a b pos) (tE X.K cA W (e2 gIx ma mb)) :=
  PEi (pe_ix ix_seq ha hb hs) (use2 (f := fun _ _ => pure Value.none) fun cA B ι S H x y a b d Q rs ra rb hg q => by
    unfold gIx at hg
    split at hg
    · rename_i z i e1
      split at hg
      · rename_i hz
        cases e : atI z.cps.toList i with
        | none => rw [e] at hg; cases hg
        | some c =>
          rw [e] at hg; cases hg
          exact .inr (.inr ⟨z, i, c, v_str ra e1, rb.int, by rw [sizeL]; exact hz, e, q _ H same_refl RD.mk_str⟩)
      · cases hg
    · rename_i ds i e1
      obtain ⟨p, us, rfl, h3, r⟩ := v_tup ra e1
      obtain ⟨v, h1, h2⟩ := atI_RD r hg
      exact .inr (.inl ⟨p, us, i, v, rfl, rb.int, h3.sq, h1, q _ H same_refl h2⟩)
    · rename_i ds i e1
      obtain ⟨p, us, rfl, h3, r⟩ := v_lst rs ra e1
      obtain ⟨v, h1, h2⟩ := atI_RD r hg
      exact .inl ⟨p, us, i, v, rfl, rb.int, h3, h1, q _ H same_refl h2⟩
    · cases hg)
end
end DL

/-! The data layer: displays, builtins, slices, statements. -/
namespace DL
open PySem PySem.Spec PyProof.Rows L2
section
variable {X : Cx} {K : PySem.W.Frag} {cA : Str → Addr} {W : WX} {B : Addr → Prop} {ι : List Addr} {S : Sto} {H : Hp}
variable {a b c : Expr} {es : List Expr} {ma mb mc : ME} {xs : MA} {pos : Pos}

/-! ### displays -/
theorem q_tup {x1} (h : PA X es (tA X.K cA W xs)) : PE X (.Tuple es x1 pos) (tE X.K cA W (eTup xs)) := PEi (pe_tup h) fun σ H Q ⟨B, ι, e, S, re, p⟩ =>
  .of re (poA_bind re p fun ι1 vs H1 ds S1 f1 r1 rd1 p1 => by
    split at p1
    · rename_i hz
      exact ⟨by rw [sizeL, ← rd1.len]; exact hz, fun n np => p1 ι1 _ _ (Fr.same (same_new np)) (r1.rs.same (same_new np)) (new_tup r1.rs np rd1)⟩
    · exact p1.elim)
theorem q_lst (h : PA X es (tA X.K cA W xs)) : PE X (.List es pos) (tE X.K cA W (eLst xs)) := PEi (pe_lst h) fun σ H Q ⟨B, ι, e, S, re, p⟩ =>
  .of re (poA_bind re p fun ι1 vs H1 ds S1 f1 r1 rd1 p1 => by
    split at p1
    · rename_i hz
      exact ⟨by rw [sizeL, ← rd1.len]; exact hz, fun n np => p1 ι1 _ _ (Fr.same (same_new np)) (r1.rs.same (same_new np)) (new_lst r1.rs np rd1)⟩
    · exact p1.elim)
/-- a new cell -/
theorem Fr.push {p : Addr} {o : HO} (h : p ∉ ι) (np : H p = none) : Fr ι (ι ++ [p]) H (upd H p o) := ⟨⟨[p], rfl, fun a m => by rw [List.mem_singleton.mp m]; exact ⟨h, np⟩⟩, fun a o' e _ => by rw [upd_ne (ne_of_none e np)]; exact e⟩
theorem RS.push (rs : RS K cA B ι S H) {p : Addr} (np : H p = none) {o : HO} {c : Cell} (h : RO K cA B (ι ++ [p]) (upd H p o) p c) : RS K cA B (ι ++ [p]) (S ++ [c]) (upd H p o) := by
  have hp := not_in rs np
  refine ⟨by simp [rs.len], ?_, fun a hb => ?_, fun i c' e => ?_⟩
  · rw [List.nodup_append]
    exact ⟨rs.nd, by simp, fun x hx y hy => by rw [List.mem_singleton.mp hy]; exact fun z => hp (z ▸ hx)⟩
  · obtain ⟨h1, o', h2⟩ := rs.nB a hb
    refine ⟨fun m => ?_, o', by rw [upd_ne (ne_of_none h2 np)]; exact h2⟩
    rcases List.mem_append.mp m with m | m
    · exact h1 m
    · rw [List.mem_singleton.mp m, np] at h2; cases h2
  · by_cases hi : i < S.length
    · rw [List.getElem?_append_left hi] at e
      obtain ⟨a, h1, h2⟩ := rs.at_ i c' e
      obtain ⟨o', ho⟩ := h2.has
      exact ⟨a, by rw [List.getElem?_append_left (by rw [rs.len]; exact hi)]; exact h1, h2.fr (Fr.push hp np) (by rw [upd_ne (ne_of_none ho np)])⟩
    · rw [List.getElem?_append_right (by omega)] at e
      have : i - S.length = 0 := by
        by_cases z : i - S.length = 0
        · exact z
        · rw [List.getElem?_eq_none (by simp; omega)] at e; cases e
      rw [this] at e
      cases e
      refine ⟨p, ?_, h⟩
      rw [List.getElem?_append_right (by rw [rs.len]; omega), rs.len, this]; rfl
theorem q_new (h : PA X es (tA X.K cA W xs)) : PE X (.List es pos) (tE X.K cA W (eNew xs)) := PEi (pe_lst h) fun σ H Q ⟨B, ι, e, S, re, p⟩ =>
  .of re (poA_bind re p fun ι1 vs H1 ds S1 f1 r1 rd1 p1 => by
    split at p1
    · rename_i hz
      refine ⟨by rw [sizeL, ← rd1.len]; exact hz, fun n np => ?_⟩
      have fr : Fr ι1 (ι1 ++ [n]) H1 (upd H1 n (.lst vs)) := Fr.push (not_in r1.rs np) np
      refine p1 _ _ _ fr (r1.rs.push np ⟨vs, upd_same, RDs.fr fr _ _ rd1⟩) (.mk_obj ?_)
      rw [← r1.rs.len, List.getElem?_append_right (Nat.le_refl _)]
      simp
    · exact p1.elim)

/-! ### builtins -/
structure CB (X : Cx) (f : Value) (g : Sto → List D → Option D) : Prop where
  ex : ∃ r : List V → Hp → VK → Prop, CallR X f r ∧ ∀ (cA : Str → Addr) (B : Addr → Prop) (ι : List Addr) (S : Sto) (H : Hp) (xs : List V) (ds : List D) (d : D) (Q : VK), RS X.K cA B ι S H → RDs X.K cA B ι H ds xs → g S ds = some d →
    (∀ v H', Same H H' → RD X.K cA B ι H' d v → Q v H') → r xs H Q
variable {g : Sto → List D → Option D} {x : Str} {p : Pos} {id T : String}
theorem useB {r : List V → Hp → VK → Prop} (hr : ∀ (cA : Str → Addr) (B : Addr → Prop) (ι : List Addr) (S : Sto) (H : Hp) (xs : List V) (ds : List D) (d : D) (Q : VK), RS X.K cA B ι S H → RDs X.K cA B ι H ds xs → g S ds = some d →
    (∀ v H', Same H H' → RD X.K cA B ι H' d v → Q v H') → r xs H Q) : ∀ σ H Q, tE X.K cA W (eB g xs) σ H Q → tCB r (tA X.K cA W xs) σ H Q := fun σ H Q ⟨B, ι, e, S, re, p⟩ =>
  .of re (poA_bind re p fun ι1 vs H1 ds S1 f1 r1 rd1 p1 => by
    obtain ⟨d, hd, q⟩ := po_opt p1 r1.rs
    exact hr cA B ι1 S1 H1 vs ds d Q r1.rs rd1 hd q)
theorem q_callB (hc : CB X (.builtin id) g) (hg : Gl X x) (hm : X.mg x = none) (hv : bootBuiltins x = some (.builtin id)) (ha : PA X (a :: es) (tA X.K cA W xs)) (hn : x ≠ "__name__" := by decide) (hdb : (x == ("__debug__" : Str)) = false := by decide)
    (he : starEach (a :: es) X.env = (false, eval a X.env) :: starEach es X.env := by rfl) (hpl : (backTo pos (starEach es X.env)).any (·.1) = false := by rfl) : PE X (.Call (.Name x p) (a :: es) [] pos) (tE X.K cA W (eB g xs)) :=
  let ⟨_, h1, h2⟩ := hc.ex; PEi (pe_callB h1 hg hm hv ha hn hdb he hpl) (useB h2)
theorem q_callT (hc : CB X (.type T) g) (hg : Gl X x) (hm : X.mg x = none) (hv : bootBuiltins x = some (.type T)) (ha : PA X (a :: es) (tA X.K cA W xs)) (hn : x ≠ "__name__" := by decide) (hdb : (x == ("__debug__" : Str)) = false := by decide)
    (he : starEach (a :: es) X.env = (false, eval a X.env) :: starEach es X.env := by rfl) (hpl : (backTo pos (starEach es X.env)).any (·.1) = false := by rfl) : PE X (.Call (.Name x p) (a :: es) [] pos) (tE X.K cA W (eB g xs)) :=
  let ⟨_, h1, h2⟩ := hc.ex; PEi (pe_callTy h1 hg hm hv ha hn hdb he hpl) (useB h2)
theorem CB.mk' {f : Value} {r : List V → Hp → VK → Prop} (h : CallR X f r) (k : ∀ (cA : Str → Addr) (B : Addr → Prop) (ι : List Addr) (S : Sto) (H : Hp) (xs : List V) (ds : List D) (d : D) (Q : VK), RS X.K cA B ι S H → RDs X.K cA B ι H ds xs → g S ds = some d →
    (∀ v H', Same H H' → RD X.K cA B ι H' d v → Q v H') → r xs H Q) : CB X f g := ⟨r, h, k⟩
theorem CallR.or {f : Value} {r r' : List V → Hp → VK → Prop} (h : CallR X f r) (h' : CallR X f r') : CallR X f (fun xs H Q => r xs H Q ∨ r' xs H Q) := by
  intro pins s σ H xs us Q I rx q
  rcases q with q | q
  · exact h pins s σ H xs us Q I rx q
  · exact h' pins s σ H xs us Q I rx q
theorem RDs.one {d : D} {xs : List V} (r : RDs K cA B ι H [d] xs) : ∃ v, xs = [v] ∧ RD K cA B ι H d v := by
  obtain ⟨v, t, rfl, h1, h2⟩ := r.cons_inv
  rw [h2.nil_inv]; exact ⟨v, rfl, h1⟩
theorem RDs.two {d d' : D} {xs : List V} (r : RDs K cA B ι H [d, d'] xs) : ∃ v v', xs = [v, v'] ∧ RD K cA B ι H d v ∧ RD K cA B ι H d' v' := by
  obtain ⟨v, t, rfl, h1, h2⟩ := r.cons_inv
  obtain ⟨v', rfl, h3⟩ := h2.one
  exact ⟨v, v', rfl, h1, h3⟩
def gLen (S : Sto) : List D → Option D
  | [d] => match view S d with
    | .str z => if z.length ≤ 16777216 then some (.int z.length) else none
    | .tup ds => some (.int ds.length)
    | .lst ds => some (.int ds.length)
    | .dct ks _ => some (.int ks.length)
    | _ => none
  | _ => none
theorem c_len : CB X (.builtin "len") gLen := .mk' (CallR.or call_len_str (CallR.or call_len_seq call_lenD)) fun cA B ι S H xs ds d Q rs rd hg q => by
  unfold gLen at hg
  split at hg
  · obtain ⟨v, rfl, rd1⟩ := rd.one
    split at hg
    · rename_i z e
      split at hg
      · rename_i hz
        cases hg
        exact .inl ⟨z, by rw [v_str rd1 e], by rw [sizeL]; exact hz, q _ H same_refl RD.mk_int⟩
      · cases hg
    · rename_i z e
      cases hg
      obtain ⟨p, us, rfl, h3, r⟩ := v_tup rd1 e
      exact .inr (.inl ⟨p, us, rfl, .inr h3.sq, by rw [← r.len]; exact q _ H same_refl RD.mk_int⟩)
    · rename_i z e
      cases hg
      obtain ⟨p, us, rfl, h3, r⟩ := v_lst rs rd1 e
      exact .inr (.inl ⟨p, us, rfl, .inl h3, by rw [← r.len]; exact q _ H same_refl RD.mk_int⟩)
    · rename_i ks z e
      cases hg
      obtain ⟨p, us, rfl, h3, h4, r⟩ := v_dct rs rd1 e
      refine .inr (.inr ⟨p, _, rfl, h3, ?_⟩)
      rw [List.length_zip, ← h4, Nat.min_self]
      exact q _ H same_refl RD.mk_int
    · cases hg
  · cases hg
def gAbs (S : Sto) : List D → Option D
  | [.int i] => some (.int (if i < 0 then -i else i))
  | _ => none
theorem c_abs : CB X (.builtin "abs") gAbs := .mk' call_abs fun cA B ι S H xs ds d Q rs rd hg q => by
  unfold gAbs at hg
  split at hg
  · cases hg
    obtain ⟨v, rfl, rd1⟩ := rd.one
    exact ⟨_, by rw [rd1.int], q _ H same_refl RD.mk_int⟩
  · cases hg
def gList (S : Sto) : List D → Option D
  | [d] => match view S d with
    | .tup ds => some (.lst ds)
    | .lst ds => some (.lst ds)
    | _ => none
  | _ => none
theorem c_list : CB X (.type "list") gList := .mk' call_list_of fun cA B ι S H xs ds d Q rs rd hg q => by
  unfold gList at hg
  split at hg
  · obtain ⟨v, rfl, rd1⟩ := rd.one
    split at hg
    · rename_i z e
      cases hg
      obtain ⟨p, us, rfl, h3, r⟩ := v_tup rd1 e
      exact ⟨p, us, rfl, .inr h3.sq, fun n np => q _ _ (same_new np) (new_lst rs np r)⟩
    · rename_i z e
      cases hg
      obtain ⟨p, us, rfl, h3, r⟩ := v_lst rs rd1 e
      exact ⟨p, us, rfl, .inl h3, fun n np => q _ _ (same_new np) (new_lst rs np r)⟩
    · cases hg
  · cases hg
def gTuple (S : Sto) : List D → Option D
  | [d] => match view S d with
    | .tup ds => some (.tup ds)
    | .lst ds => some (.tup ds)
    | _ => none
  | _ => none
theorem c_tuple : CB X (.type "tuple") gTuple := .mk' call_tuple_of fun cA B ι S H xs ds d Q rs rd hg q => by
  unfold gTuple at hg
  split at hg
  · obtain ⟨v, rfl, rd1⟩ := rd.one
    split at hg
    · rename_i z e
      cases hg
      obtain ⟨p, us, rfl, h3, r⟩ := v_tup rd1 e
      exact ⟨p, us, rfl, .inr ⟨h3.sq, q _ _ same_refl (.mk_tup h3 r)⟩⟩
    · rename_i z e
      cases hg
      obtain ⟨p, us, rfl, h3, r⟩ := v_lst rs rd1 e
      exact ⟨p, us, rfl, .inl ⟨h3, fun n np => q _ _ (same_new np) (new_tup rs np r)⟩⟩
    · cases hg
  · cases hg
/-- the truths, the numbers in a list -/
def bls : List D → Option (List Bool)
  | [] => some []
  | .bl b :: ds => (bls ds).map (b :: ·)
  | _ => none
def intL : List D → Option (List Int)
  | [] => some []
  | .int b :: ds => (intL ds).map (b :: ·)
  | _ => none
theorem bls_V : ∀ {ds : List D} {xs : List V} {bs : List Bool}, RDs K cA B ι H ds xs → bls ds = some bs → xs = bs.map V.bl
  | [], xs, bs, r, h => by cases h; rw [r.nil_inv]; rfl
  | .bl k :: ds, xs, bs, r, h => by
    obtain ⟨v, t, rfl, h1, h2⟩ := r.cons_inv
    rw [bls] at h
    cases q : bls ds with
    | none => rw [q] at h; cases h
    | some l =>
      rw [q] at h; cases h
      rw [bls_V h2 q, h1.bl]; rfl
  | .non :: ds, xs, bs, r, h => by cases h
  | .int _ :: ds, xs, bs, r, h => by cases h
  | .str _ :: ds, xs, bs, r, h => by cases h
  | .tup _ :: ds, xs, bs, r, h => by cases h
  | .lst _ :: ds, xs, bs, r, h => by cases h
  | .dct _ _ :: ds, xs, bs, r, h => by cases h
  | .obj _ :: ds, xs, bs, r, h => by cases h
  | .scr _ :: ds, xs, bs, r, h => by cases h
  | .exn _ :: ds, xs, bs, r, h => by cases h
theorem ints_V : ∀ {ds : List D} {xs : List V} {bs : List Int}, RDs K cA B ι H ds xs → intL ds = some bs → xs = bs.map V.int
  | [], xs, bs, r, h => by cases h; rw [r.nil_inv]; rfl
  | .int k :: ds, xs, bs, r, h => by
    obtain ⟨v, t, rfl, h1, h2⟩ := r.cons_inv
    rw [intL] at h
    cases q : intL ds with
    | none => rw [q] at h; cases h
    | some l =>
      rw [q] at h; cases h
      rw [ints_V h2 q, h1.int]; rfl
  | .non :: ds, xs, bs, r, h => by cases h
  | .bl _ :: ds, xs, bs, r, h => by cases h
  | .str _ :: ds, xs, bs, r, h => by cases h
  | .tup _ :: ds, xs, bs, r, h => by cases h
  | .lst _ :: ds, xs, bs, r, h => by cases h
  | .dct _ _ :: ds, xs, bs, r, h => by cases h
  | .obj _ :: ds, xs, bs, r, h => by cases h
  | .scr _ :: ds, xs, bs, r, h => by cases h
  | .exn _ :: ds, xs, bs, r, h => by cases h
def gLb (f : List Bool → Bool) (S : Sto) : List D → Option D
  | [d] => match view S d with
    | .lst ds => (bls ds).map fun bs => .bl (f bs)
    | _ => none
  | _ => none
theorem c_lb {id : String} {f : List Bool → Bool} (h : CallR X (.builtin id) (fun vs H Q => ∃ (a : Addr) (bs : List Bool), vs = [V.ref a] ∧ SqL X.K H a (bs.map V.bl) ∧ Q (.bl (f bs)) H)) : CB X (.builtin id) (gLb f) := .mk' h fun cA B ι S H xs ds d Q rs rd hg q => by
  unfold gLb at hg
  split at hg
  · obtain ⟨v, rfl, rd1⟩ := rd.one
    split at hg
    · rename_i z e
      cases q2 : bls z with
      | none => rw [q2] at hg; cases hg
      | some bs =>
        rw [q2] at hg; cases hg
        obtain ⟨p, us, rfl, h3, r⟩ := v_lst rs rd1 e
        have := bls_V r q2
        subst this
        exact ⟨p, bs, rfl, h3, q _ H same_refl RD.mk_bl⟩
    · cases hg
  · cases hg
def allB (bs : List Bool) : Bool := bs.all _root_.id
def anyB (bs : List Bool) : Bool := bs.any _root_.id
theorem c_all (hc : X.calm = true) : CB X (.builtin "all") (gLb allB) := c_lb (cr_all hc)
theorem c_any (hc : X.calm = true) : CB X (.builtin "any") (gLb anyB) := c_lb (cr_any hc)
def gSum (S : Sto) : List D → Option D
  | [d] => match view S d with
    | .lst ds => (intL ds).map fun ns => .int ns.sum
    | _ => none
  | _ => none
theorem c_sum (hc : X.calm = true) : CB X (.builtin "sum") gSum := .mk' (cr_sum hc) fun cA B ι S H xs ds d Q rs rd hg q => by
  unfold gSum at hg
  split at hg
  · obtain ⟨v, rfl, rd1⟩ := rd.one
    split at hg
    · rename_i z e
      cases q2 : intL z with
      | none => rw [q2] at hg; cases hg
      | some bs =>
        rw [q2] at hg; cases hg
        obtain ⟨p, us, rfl, h3, r⟩ := v_lst rs rd1 e
        have := ints_V r q2
        subst this
        exact ⟨p, bs, rfl, h3, q _ H same_refl RD.mk_int⟩
    · cases hg
  · cases hg
/-- isinstance of a built-in class -/
def tyN (S : Sto) (d : D) : Option String := match view S d with
  | .non => some "NoneType" | .bl _ => some "bool" | .int _ => some "int" | .str _ => some "str" | .tup _ => some "tuple" | .lst _ => some "list" | .dct _ _ => some "dict" | _ => none
def isi (n t : String) : Bool := t == n || (t == "bool" && n == "int")
def gIsi (n : String) (S : Sto) (d : D) : Option D := (tyN S d).map fun t => .bl (isi n t)
theorem kit_isi {n t : String} (hn : n ∈ ["str", "tuple", "list", "dict", "int", "bool"]) (ht : t ∈ ["NoneType", "bool", "int", "str", "tuple", "list", "dict"]) : PySem.W.kitOne K (.type t) (.type n) = some (isi n t) := by
  apply kit_ty
  simp only [List.mem_cons, List.not_mem_nil, or_false] at hn ht
  rcases hn with rfl | rfl | rfl | rfl | rfl | rfl <;> rcases ht with rfl | rfl | rfl | rfl | rfl | rfl | rfl <;> decide +kernel
theorem tyN_ok (rs : RS K cA B ι S H) {d : D} {v : V} {t : String} (rd : RD K cA B ι H d v) (h : tyN S d = some t) : TyX K H v (.type t) ∧ t ∈ ["NoneType", "bool", "int", "str", "tuple", "list", "dict"] := by
  unfold tyN at h
  split at h
  · rename_i e; cases h; rw [v_non rd e]; exact ⟨.base .non, by simp⟩
  · rename_i e; cases h; rw [v_bl rd e]; exact ⟨.base (.bl _), by simp⟩
  · rename_i e; cases h; rw [v_int rd e]; exact ⟨.base (.int _), by simp⟩
  · rename_i e; cases h; rw [v_str rd e]; exact ⟨.base (.str _), by simp⟩
  · rename_i e; cases h
    obtain ⟨p, us, rfl, h3, r⟩ := v_tup rd e
    refine ⟨?_, by simp⟩
    rcases h3 with ⟨_, _, h | ⟨o, h⟩⟩ | ⟨o, its, n, h, hc, _⟩
    · exact .base (.tup h)
    · exact .fTuple h
    · exact .kTuple h hc
  · rename_i e; cases h
    obtain ⟨p, us, rfl, h3, r⟩ := v_lst rs rd e
    refine ⟨?_, by simp⟩
    rcases h3 with (h | ⟨o, h⟩) | ⟨o, its, n, h, hc, _⟩
    · exact .base (.lst h)
    · exact .base (.frz h)
    · exact .kList h hc
  · rename_i e; cases h
    obtain ⟨p, us, rfl, h3, r⟩ := v_dct rs rd e
    exact ⟨.base (.dK h3), by simp⟩
  · cases h
theorem q_isi {n : String} (hg : Gl X "isinstance") (hm : X.mg "isinstance" = none) (ha : PE X a (tE X.K cA W ma)) (ht : PE X b (tC (.ty n))) (hn : n ∈ ["str", "tuple", "list", "dict", "int", "bool"] := by simp)
    (hs : starEach [a, b] X.env = [(false, eval a X.env), (false, eval b X.env)] := by rfl) (hs2 : starEach [b] X.env = [(false, eval b X.env)] := by rfl) (hpl : (backTo pos (starEach [b] X.env)).any (·.1) = false := by rfl) :
    PE X (.Call (.Name "isinstance" p) [a, b] [] pos) (tE X.K cA W (e1 (gIsi n) ma)) :=
  PEi (pe_callB call_isi hg hm (by decide +kernel) (pa_cons ha (pa_cons ht pa_nil hs2) (by rw [hs, hs2])) (by decide) (by decide) (by rw [hs, hs2]) hpl) fun σ H Q ⟨B, ι, e, S, re, p⟩ =>
    .of re (po_bind re p fun ι1 v1 H1 d1 S1 f1 r1 rd1 p1 => by
      obtain ⟨d, hd, q⟩ := po_opt p1 r1.rs
      unfold gIsi at hd
      cases e : tyN S1 d1 with
      | none => rw [e] at hd; cases hd
      | some t =>
        rw [e] at hd; cases hd
        obtain ⟨h1, h2⟩ := tyN_ok r1.rs rd1 e
        exact ⟨v1, .ty n, .type t, .type n, _, rfl, .ty n, h1, kit_isi hn h2, q _ H1 same_refl RD.mk_bl⟩)
theorem q_ty {x : Str} {n : String} {pos : Pos} (hg : Gl X x) (hm : X.mg x = none) (hv : bootBuiltins x = some (.type n)) (hn : x ≠ "__name__" := by decide) (hd : (x == ("__debug__" : Str)) = false := by decide) : PE X (.Name x pos) (tC (.ty n)) := pe_bltn (v := .ty n) hg hm hv rfl hn hd

/-! ### slices -/
def oNo : En → Sto → Option (Option Int × Sto) := fun _ S => some (none, S)
/-- the part of a slice: no store is changed by it -/
def gSl (lo hi : Option Int) (S : Sto) (d : D) : Option D := match view S d with
  | .str z => if z.length ≤ 16777216 then some (.str (cutS z lo hi)) else none
  | .tup ds => some (.tup ((ds.drop (HT.sIx ds.length 0 lo)).take (HT.sIx ds.length ds.length hi - HT.sIx ds.length 0 lo)))
  | .lst ds => some (.lst ((ds.drop (HT.sIx ds.length 0 lo)).take (HT.sIx ds.length ds.length hi - HT.sIx ds.length 0 lo)))
  | _ => none
def part : D → Option Int
  | .int i => some i
  | _ => none
def isPart : D → Bool
  | .int _ => true
  | _ => false
def eSl2 (m l h : ME) : ME := fun e S => (m e S).bind fun x S1 => (l e S1).bind fun i S2 => if isPart i = true then (h e S2).bind fun j S3 => if isPart j = true then opt (gSl (part i) (part j) S3 x) S3 else .bad else .bad
def eSlL (m l : ME) : ME := fun e S => (m e S).bind fun x S1 => (l e S1).bind fun i S2 => if isPart i = true then opt (gSl (part i) none S2 x) S2 else .bad
def eSlH (m h : ME) : ME := fun e S => (m e S).bind fun x S1 => (h e S1).bind fun j S2 => if isPart j = true then opt (gSl none (part j) S2 x) S2 else .bad
def rSl3 (K : PySem.W.Frag) : V → Option Int → Option Int → Hp → VK → Prop := fun x lo hi H Q => rSlS x lo hi H Q ∨ rSlA K x lo hi H Q ∨ rSlL K x lo hi H Q
theorem sl_3 : SlR X (rSl3 X.K) := SlR.or sl_str (SlR.or sl_tupA sl_list)
theorem gSl_ok (rs : RS K cA B ι S H) {d r : D} {v : V} {lo hi : Option Int} {Q : VK} (rd : RD K cA B ι H d v) (h : gSl lo hi S d = some r) (q : ∀ v H', Same H H' → RD K cA B ι H' r v → Q v H') : rSl3 K v lo hi H Q := by
  unfold gSl at h
  split at h
  · rename_i z e
    split at h
    · rename_i hz
      cases h
      exact .inl ⟨z, v_str rd e, by rw [sizeL]; exact hz, q _ H same_refl RD.mk_str⟩
    · cases h
  · rename_i z e
    cases h
    obtain ⟨p, us, rfl, h3, r⟩ := v_tup rd e
    have hl := r.len
    have hcut : ∀ H', Same H H' → RDs K cA B ι H' ((z.drop (HT.sIx z.length 0 lo)).take (HT.sIx z.length z.length hi - HT.sIx z.length 0 lo)) (cutV us lo hi) := fun H' sm => by
      unfold cutV
      rw [← hl]
      exact ((RDs.fr (Fr.same sm) _ _ r).drop _).take _
    refine .inr (.inl ⟨p, us, rfl, h3.sq, fun ⟨w1, w2⟩ => ?_, fun _ n np => ?_⟩)
    · have : cutV us lo hi = us := by unfold cutV; rw [w1, w2]; simp
      have hc := hcut H same_refl
      rw [this] at hc
      exact q _ H same_refl (.mk_tup h3 hc)
    · refine q _ _ (same_new np) (.mk_tup (.inl ⟨not_in rs np, not_B rs np, .inl upd_same⟩) (hcut _ (same_new np)))
  · rename_i z e
    cases h
    obtain ⟨p, us, rfl, h3, r⟩ := v_lst rs rd e
    have hl := r.len
    refine .inr (.inr ⟨p, us, rfl, h3, fun n np => q _ _ (same_new np) (.mk_lst ⟨not_in rs np, not_B rs np, upd_same⟩ ?_)⟩)
    unfold cutV
    rw [← hl]
    exact ((RDs.fr (Fr.same (same_new np)) _ _ r).drop _).take _
  · cases h
theorem part_int {d : D} {v : V} (rd : RD K cA B ι H d v) (h : isPart d = true) : ∃ i, v = .int i ∧ part d = some i := by
  cases d with
  | int i => exact ⟨i, rd.int, rfl⟩
  | _ => cases h
variable {lo hi : Expr} {ml mh : ME} {p2 : Pos}
theorem q_sl2 (ha : PE X a (tE X.K cA W ma)) (hl : PE X lo (tE X.K cA W ml)) (hh : PE X hi (tE X.K cA W mh)) : PE X (.Subscript a (.Slice (some lo) (some hi) none p2) pos) (tE X.K cA W (eSl2 ma ml mh)) :=
  PEi (pe_slice sl_3 ha (po_some hl) (po_some hh)) fun σ H Q ⟨B, ι, e, S, re, p⟩ =>
    .of re (po_bind re p fun ι1 v1 H1 d1 S1 f1 r1 rd1 p1 => .of r1 (po_bind r1 p1 fun ι2 v2 H2 d2 S2 f2 r2 rd2 p2 => by
      split at p2
      · rename_i hi
        obtain ⟨i, rfl, e2⟩ := part_int rd2 hi
        refine ⟨i, rfl, .of r2 (po_bind r2 p2 fun ι3 v3 H3 d3 S3 f3 r3 rd3 p3 => ?_)⟩
        split at p3
        · rename_i hj
          obtain ⟨j, rfl, e3⟩ := part_int rd3 hj
          obtain ⟨d, hd, q⟩ := po_opt p3 r3.rs
          rw [e2, e3] at hd
          exact ⟨j, rfl, gSl_ok r3.rs (RD.fr f3 _ _ (RD.fr f2 _ _ rd1)) hd q⟩
        · exact p3.elim
      · exact p2.elim))
theorem q_slL (ha : PE X a (tE X.K cA W ma)) (hl : PE X lo (tE X.K cA W ml)) : PE X (.Subscript a (.Slice (some lo) none none p2) pos) (tE X.K cA W (eSlL ma ml)) :=
  PEi (pe_slice sl_3 ha (po_some hl) po_none) fun σ H Q ⟨B, ι, e, S, re, p⟩ =>
    .of re (po_bind re p fun ι1 v1 H1 d1 S1 f1 r1 rd1 p1 => .of r1 (po_bind r1 p1 fun ι2 v2 H2 d2 S2 f2 r2 rd2 p2 => by
      split at p2
      · rename_i hi
        obtain ⟨i, rfl, e2⟩ := part_int rd2 hi
        obtain ⟨d, hd, q⟩ := po_opt p2 r2.rs
        rw [e2] at hd
        exact ⟨i, rfl, gSl_ok r2.rs (RD.fr f2 _ _ rd1) hd q⟩
      · exact p2.elim))
theorem q_slH (ha : PE X a (tE X.K cA W ma)) (hl : PE X hi (tE X.K cA W mh)) : PE X (.Subscript a (.Slice none (some hi) none p2) pos) (tE X.K cA W (eSlH ma mh)) :=
  PEi (pe_slice sl_3 ha po_none (po_some hl)) fun σ H Q ⟨B, ι, e, S, re, p⟩ =>
    .of re (po_bind re p fun ι1 v1 H1 d1 S1 f1 r1 rd1 p1 => .of r1 (po_bind r1 p1 fun ι2 v2 H2 d2 S2 f2 r2 rd2 p2 => by
      split at p2
      · rename_i hi
        obtain ⟨i, rfl, e2⟩ := part_int rd2 hi
        obtain ⟨d, hd, q⟩ := po_opt p2 r2.rs
        rw [e2] at hd
        exact ⟨i, rfl, gSl_ok r2.rs (RD.fr f2 _ _ rd1) hd q⟩
      · exact p2.elim))
end
end DL

/-! The data layer: statements, loops. -/
namespace DL
open PySem PySem.Spec PyProof.Rows L2
section
variable {X : Cx} {K : PySem.W.Frag} {cA : Str → Addr} {W : WX} {B : Addr → Prop} {ι : List Addr} {S : Sto} {H : Hp} {σ : L2.St} {e : En}
variable {a b c : Expr} {es : List Expr} {ma mb mc : ME} {xs : MA} {pos : Pos} {st : Stmt} {sts : List Stmt} {sa sb : MS}

/-! ### small statements -/
theorem z_nil : PSs X [] (tS X.K cA W sPass) := PSsi pss_nil fun D' σ H ⟨B, ι, e, S, re, p⟩ => p ι σ H Fr.refl re
theorem z_cons (h1 : PS X st (tS X.K cA W sa)) (h2 : PSs X sts (tS X.K cA W sb)) : PSs X (st :: sts) (tS X.K cA W (sSeq sa sb)) := PSsi (pss_cons h1 h2) fun D' σ H ⟨B, ι, e, S, re, p⟩ => by
  refine .of re ?_
  unfold sSeq RS'.bind at p
  cases q : sa e S with
  | nx e1 S1 => rw [q] at p; exact fun ι1 σ1 H1 f1 r1 => .of r1 (PoS.on f1 p)
  | bad => rw [q] at p; exact p
  | brk e1 S1 => rw [q] at p; exact p
  | cont e1 S1 => rw [q] at p; exact p
  | ret d S1 => rw [q] at p; exact p
  | exc c e1 S1 => rw [q] at p; exact p
theorem z_one (h1 : PS X st (tS X.K cA W sa)) : PSs X [st] (tS X.K cA W sa) := pss_one h1
theorem s_pass : PS X (.Pass pos) (tS X.K cA W sPass) := PSi ps_pass fun D' σ H ⟨B, ι, e, S, re, p⟩ => p ι σ H Fr.refl re
theorem s_doc {x j pos pos'} : PS X (.Expr (.Constant (.str x) j pos) pos') (tS X.K cA W sPass) := PSi ps_doc fun D' σ H ⟨B, ι, e, S, re, p⟩ => p ι σ H Fr.refl re
theorem s_brk : PS X (.Break pos) (tS X.K cA W sBrk) := PSi ps_break fun D' σ H ⟨B, ι, e, S, re, p⟩ => p ι σ H Fr.refl re
theorem s_cont : PS X (.Continue pos) (tS X.K cA W sCont) := PSi ps_continue fun D' σ H ⟨B, ι, e, S, re, p⟩ => p ι σ H Fr.refl re
theorem s_ex (h : PE X a (tE X.K cA W ma)) (hs : swapsWith a none pos.line X.env = pure false := by rfl) : PS X (.Expr a pos) (tS X.K cA W (sEx ma)) := PSi (ps_expr h hs) fun D' σ H ⟨B, ι, e, S, re, p⟩ =>
  .of re (po_bindS re p fun ι1 v1 H1 d1 S1 f1 r1 rd1 p1 => p1 ι1 σ H1 Fr.refl r1)
theorem s_ret (h : PE X a (tE X.K cA W ma)) : PS X (.Return (some a) pos) (tS X.K cA W (sRet ma)) := PSi (ps_ret h) fun D' σ H ⟨B, ι, e, S, re, p⟩ =>
  .of re (po_bindS re p fun ι1 v1 H1 d1 S1 f1 r1 rd1 p1 => p1 ι1 v1 H1 Fr.refl r1.rs rd1)
theorem s_retN : PS X (.Return none pos) (tS X.K cA W sRetN) := PSi ps_retN fun D' σ H ⟨B, ι, e, S, re, p⟩ => p ι .non H Fr.refl re.rs RD.mk_non
theorem Rel.set (r : Rel K cA B ι e S σ H) {i : Nat} {d : D} {v : V} (rd : RD K cA B ι H d v) : Rel K cA B ι (e.set i (some d)) S (σ.set i (some v)) H := ⟨r.rs, by rw [List.length_set, List.length_set]; exact r.len, fun j d' h => by
  by_cases hj : i = j
  · subst hj
    by_cases hi : i < e.length
    · rw [List.getElem?_set_self hi] at h
      cases h
      exact ⟨v, List.getElem?_set_self (by rw [← r.len]; exact hi), rd⟩
    · rw [List.getElem?_eq_none (by rw [List.length_set]; omega)] at h; cases h
  · rw [List.getElem?_set_ne hj] at h
    obtain ⟨u, h1, h2⟩ := r.ev j d' h
    exact ⟨u, by rw [List.getElem?_set_ne hj]; exact h1, h2⟩⟩
theorem s_set {i : Nat} (h : PS X st (tAsg (tE X.K cA W ma) (gName i))) : PS X st (tS X.K cA W (sSet i ma)) := PSi h fun D' σ H ⟨B, ι, e, S, re, p⟩ =>
  .of re (po_bindS re p fun ι1 v1 H1 d1 S1 f1 r1 rd1 p1 => p1 ι1 _ H1 Fr.refl (r1.set rd1))
theorem s_if {xc : MB} {sas sbs : List Stmt} (hc : PT X c (tT X.K cA W xc)) (ha : PSs X sas (tS X.K cA W sa)) (hb : PSs X sbs (tS X.K cA W sb)) : PS X (.If c sas sbs pos) (tS X.K cA W (sIf xc sa sb)) := PSi (ps_if hc ha hb) fun D' σ H ⟨B, ι, e, S, re, p⟩ =>
  .of re (poB_bindS re p fun ι1 H1 k S1 f1 r1 p1 => by
    cases k with
    | true => exact .of r1 p1
    | false => exact .of r1 p1)

/-! ### targets -/
abbrev MTg := D → En → Option En
def TgD (K : PySem.W.Frag) (cA : Str → Addr) (g : TG) (m : MTg) (sl : List Nat) : Prop := ∀ (B : Addr → Prop) (ι : List Addr) (e e' : En) (S : Sto) (σ : L2.St) (H : Hp) (d : D) (v : V) (Q : L2.St → Hp → Prop), Rel K cA B ι e S σ H → RD K cA B ι H d v → m d e = some e' → (∀ σ', Rel K cA B ι e' S σ' H → (∀ vs, (∀ i ∈ sl, i ∈ vs) → wipe σ' vs = wipe σ vs) → Q σ' H) → g v σ H Q
abbrev MTgs := List D → En → Option En
def TgsD (K : PySem.W.Frag) (cA : Str → Addr) (g : TGs) (m : MTgs) (sl : List Nat) : Prop := ∀ (B : Addr → Prop) (ι : List Addr) (e e' : En) (S : Sto) (σ : L2.St) (H : Hp) (ds : List D) (vs : List V) (Q : L2.St → Hp → Prop), Rel K cA B ι e S σ H → RDs K cA B ι H ds vs → m ds e = some e' → (∀ σ', Rel K cA B ι e' S σ' H → (∀ vs, (∀ i ∈ sl, i ∈ vs) → wipe σ' vs = wipe σ vs) → Q σ' H) → g vs σ H Q
def mNm (i : Nat) : MTg := fun d e => some (e.set i (some d))
def mNil : MTgs := fun ds e => match ds with | [] => some e | _ => none
def mCons (t : MTg) (u : MTgs) : MTgs := fun ds e => match ds with | d :: r => (t d e).bind fun e' => u r e' | [] => none
def mTup (n : Nat) (u : MTgs) : MTg := fun d e => match d with | .tup ds => if ds.length = n then u ds e else none | .lst ds => if ds.length = n then u ds e else none | _ => none
theorem wipe_set {σ : L2.St} {i : Nat} {x : Option V} : ∀ {vs : List Nat}, i ∈ vs → wipe (σ.set i x) vs = wipe σ vs
  | [], h => by cases h
  | v :: vs, h => by
    unfold wipe
    by_cases hi : i ∈ vs
    · rw [wipe_set hi]
    · have hv : i = v := by
        rcases List.mem_cons.mp h with h | h
        · exact h
        · exact absurd h hi
      subst hv
      have : ∀ (us : List Nat) (τ : L2.St), i ∉ us → wipe (τ.set i x) us = (wipe τ us).set i x := by
        intro us
        induction us with
        | nil => intro τ _; rfl
        | cons u us ih =>
          intro τ hu
          unfold wipe
          rw [ih τ (fun z => hu (List.mem_cons_of_mem _ z)), List.set_comm _ _ (fun z => hu (by first | (rw [z]; exact List.mem_cons_self) | (rw [← z]; exact List.mem_cons_self)))]
      rw [this vs σ hi, List.set_set]
theorem wipe_wipe (σ : L2.St) (vs : List Nat) : wipe (wipe σ vs) vs = wipe σ vs := by
  have : ∀ us : List Nat, (∀ i ∈ us, i ∈ vs) → ∀ τ : L2.St, wipe τ vs = wipe σ vs → wipe (wipe τ us) vs = wipe σ vs := by
    intro us
    induction us with
    | nil => intro _ τ h; exact h
    | cons u us ih =>
      intro hu τ h
      show wipe ((wipe τ us).set u none) vs = _
      rw [wipe_set (hu u List.mem_cons_self)]
      exact ih (fun i hi => hu i (List.mem_cons_of_mem _ hi)) τ h
  exact this vs (fun _ h => h) σ rfl
theorem g_nm {i : Nat} : TgD K cA (gName i) (mNm i) [i] := fun B ι e e' S σ H d v Q r rd h q => by
  cases h; exact q _ (r.set rd) fun vs hv => wipe_set (hv i (by simp))
theorem g_nil : TgsD K cA gNil mNil [] := fun B ι e e' S σ H ds vs Q r rd h q => by
  unfold mNil at h
  split at h
  · cases h; exact ⟨rd.nil_inv, q _ r fun _ _ => rfl⟩
  · cases h
theorem g_cons {g : TG} {gs : TGs} {m : MTg} {ms : MTgs} {sl sl' : List Nat} (h1 : TgD K cA g m sl) (h2 : TgsD K cA gs ms sl') : TgsD K cA (gCons g gs) (mCons m ms) (sl ++ sl') := fun B ι e e' S σ H ds vs Q r rd h q => by
  unfold mCons at h
  split at h
  · rename_i d t
    obtain ⟨v, u, rfl, h3, h4⟩ := rd.cons_inv
    cases e1 : m d e with
    | none => rw [e1] at h; cases h
    | some ee =>
      rw [e1] at h
      exact ⟨v, u, rfl, h1 B ι e ee S σ H d v _ r h3 e1 fun σ' r' w1 => h2 B ι ee e' S σ' H t u Q r' h4 h fun σ2 r2 w2 => q σ2 r2 fun vs hv => (w2 vs fun i hi => hv i (List.mem_append_right _ hi)).trans (w1 vs fun i hi => hv i (List.mem_append_left _ hi))⟩
  · cases h
/-- a row, a list -/
def gTL (K : PySem.W.Frag) (n : Nat) (t : TGs) : TG := fun v σ H Q => gTup K n t v σ H Q ∨ gLst K n t v σ H Q
theorem pgTL {tes : List Expr} {k : Nat} {t : TGs} {n : Nat} {tpos : Pos} (hc : X.calm = true) (h : PGs X tes t) (hn : (assignEach tes X.env).length = n := by rfl) (hst : (assignEach tes X.env).findIdx? (·.1) = none := by rfl) : PG X (.Tuple tes k tpos) (gTL X.K n t) :=
  ⟨fun pins s σ H v u Q I r hw => by
    rcases hw with hw | hw
    · exact (pg_tup hc h hn hst).run pins s σ H v u Q I r hw
    · exact (pg_lst hc h hn hst).run pins s σ H v u Q I r hw⟩
theorem g_tup {n : Nat} {gs : TGs} {ms : MTgs} {sl : List Nat} (h2 : TgsD K cA gs ms sl) : TgD K cA (gTL K n gs) (mTup n ms) sl := fun B ι e e' S σ H d v Q r rd h q => by
  unfold mTup at h
  split at h
  · rename_i ds
    split at h
    · rename_i hl
      obtain ⟨a, xs, rfl, h3, h4⟩ := rd.tup
      exact .inl ⟨a, xs, rfl, h3.sq, by rw [← h4.len]; exact hl, h2 B ι e e' S σ H ds xs Q r h4 h q⟩
    · cases h
  · rename_i ds
    split at h
    · rename_i hl
      obtain ⟨a, xs, rfl, h3, h4⟩ := rd.lst
      exact .inr ⟨a, xs, rfl, h3.sq, by rw [← h4.len]; exact hl, h2 B ι e e' S σ H ds xs Q r h4 h q⟩
    · cases h
  · cases h
def sAsg (t : MTg) (m : ME) : MS := fun e S => (m e S).bindS e fun d S1 => match t d e with | some e' => .nx e' S1 | none => .bad
theorem s_asg {g : TG} {m : MTg} {sl : List Nat} (ht : TgD X.K cA g m sl) (h : PS X st (tAsg (tE X.K cA W ma) g)) : PS X st (tS X.K cA W (sAsg m ma)) := PSi h fun D' σ H ⟨B, ι, e, S, re, p⟩ =>
  .of re (po_bindS re p fun ι1 v1 H1 d1 S1 f1 r1 rd1 p1 => by
    cases q : m d1 e with
    | none => rw [q] at p1; exact p1.elim
    | some e' =>
      rw [q] at p1
      exact ht B ι1 e e' S1 σ H1 d1 v1 _ r1 rd1 q fun σ' r' _ => p1 ι1 σ' H1 Fr.refl r')

/-! ### what is walked -/
structure Wk (K : PySem.W.Frag) (cA : Str → Addr) (B : Addr → Prop) (J : It) (ds : List D) (ok : List Addr → Hp → Prop) : Prop where
  go : ∀ i ι H, i < ds.length → ok ι H → J.go i H
  stop : ∀ ι H, ok ι H → J.stop ds.length H
  yld : ∀ i ι H x H' d, ds[i]? = some d → ok ι H → J.yld i H x H' → Same H H' ∧ RD K cA B ι H' d x
theorem wk_list {a : Addr} {ds : List D} : Wk K cA B (Itl K a) ds (fun ι H => ∃ xs, SqL K H a xs ∧ RDs K cA B ι H ds xs) where
  go := fun i ι H hi ⟨xs, h, r⟩ => ⟨xs, xs[i]'(by rw [← r.len]; exact hi), h, by simp⟩
  stop := fun ι H ⟨xs, h, r⟩ => ⟨xs, h, by rw [r.len]; exact Nat.le_refl _⟩
  yld := fun i ι H x H' d hd ⟨xs, h, r⟩ ⟨e, y⟩ => by
    subst e
    obtain ⟨v, h1, h2⟩ := r.get hd
    have := y xs h
    rw [h1] at this; cases this
    exact ⟨same_refl, h2⟩
theorem wk_tup {a : Addr} {ds : List D} : Wk K cA B (Itt K a) ds (fun ι H => ∃ xs, FT K B ι H a xs ∧ RDs K cA B ι H ds xs) where
  go := fun i ι H hi ⟨xs, h, r⟩ => ⟨xs, xs[i]'(by rw [← r.len]; exact hi), h.sq, by simp⟩
  stop := fun ι H ⟨xs, h, r⟩ => ⟨xs, h.sq, by rw [r.len]; exact Nat.le_refl _⟩
  yld := fun i ι H x H' d hd ⟨xs, h, r⟩ ⟨e, y⟩ => by
    subst e
    obtain ⟨v, h1, h2⟩ := r.get hd
    have := y xs h.sq
    rw [h1] at this; cases this
    exact ⟨same_refl, h2⟩
/-- the signs of a text -/
def signs (x : Str) : List D := x.cps.toList.map fun c => .str ⟨#[c]⟩
theorem wk_str {x : Str} : Wk K cA B (Its x) (signs x) (fun _ _ => True) where
  go := fun i ι H hi _ => by
    show i < x.cps.size
    simpa [signs] using hi
  stop := fun ι H _ => by
    show x.cps.size ≤ _
    simp [signs]
  yld := fun i ι H y H' d hd _ ⟨e, c, h1, h2⟩ => by
    subst e h2
    unfold signs at hd
    rw [List.getElem?_map, Array.getElem?_toList, h1] at hd
    cases hd
    exact ⟨same_refl, RD.mk_str⟩
/-- lo, lo + 1, .. -/
def rng (lo : Int) (n : Nat) : List D := (List.range n).map fun (k : Nat) => D.int (lo + (k : Int))
theorem wk_rng {lo : Int} {n : Nat} : Wk K cA B (Itr lo n) (rng lo n) (fun _ _ => True) where
  go := fun i ι H hi _ => by
    show i < n
    simpa [rng] using hi
  stop := fun ι H _ => by
    show n ≤ _
    simp [rng]
  yld := fun i ι H y H' d hd _ ⟨e, h1⟩ => by
    subst e h1
    unfold rng at hd
    rw [List.getElem?_map] at hd
    cases q : (List.range n)[i]? with
    | none => rw [q] at hd; cases hd
    | some k =>
      rw [q] at hd; cases hd
      have : k = i := by
        have := (List.getElem?_eq_some_iff.mp q).2
        simpa using this.symm
      subst this
      exact ⟨same_refl, RD.mk_int⟩

/-! ### for -/
open Classical in
/-- the turns of a loop; C: what is walked stands as it stood -/
noncomputable def forD (C : Sto → Prop) (tg : MTg) (body : MS) : List D → En → Sto → RS'
  | [], e, S => if C S then .nx e S else .bad
  | d :: ds, e, S => if C S then match tg d e with
      | none => .bad
      | some e' => match body e' S with
        | .nx e2 S2 => forD C tg body ds e2 S2
        | .cont e2 S2 => forD C tg body ds e2 S2
        | .brk e2 S2 => .nx e2 S2
        | r => r
    else .bad
/-- the loop by its walk -/
theorem for_wk {J : It} {ds : List D} {ok : List Addr → Hp → Prop} {C : Sto → Prop} {g : TG} {m : MTg} {body : MS} {D' : Ends} {sl : List Nat} (wk : Wk K cA B J ds ok) (ht : TgD K cA g m sl)
    (hok : ∀ ι' e S' σ H', Fr ι ι' H H' → Rel K cA B ι' e S' σ H' → C S' → ok ι' H') (r : Rel K cA B ι e S σ H) (p : PoS K cA W B (forD C m body ds e S) ι H D') :
    ∃ Wd : Nat → Nat → L2.St → Hp → Prop, (∃ n, Wd 0 n σ H) ∧ ∀ i n σ H, Wd i n σ H →
      (J.stop i H ∧ D'.nx σ H) ∨ (J.go i H ∧ ∃ N : L2.St → Hp → Prop, (∀ σ' H', N σ' H' → ∃ n', n' < n ∧ Wd (i + 1) n' σ' H') ∧ ∀ x H', J.yld i H x H' → g x σ H' fun σ2 H2 => tS K cA W body { D' with nx := N, ct := N, bk := D'.nx } σ2 H2) := by
  refine ⟨fun i n σ1 H1 => n + i = ds.length ∧ ∃ ι1 e1 S1, Fr ι ι1 H H1 ∧ Rel K cA B ι1 e1 S1 σ1 H1 ∧ PoS K cA W B (forD C m body (ds.drop i) e1 S1) ι1 H1 D', ⟨ds.length, by simp, ι, e, S, Fr.refl, r, by simpa using p⟩, ?_⟩
  rintro i n σ1 H1 ⟨hn, ι1, e1, S1, f1, r1, p1⟩
  by_cases hi : i < ds.length
  · rw [List.drop_eq_getElem_cons hi] at p1
    unfold forD at p1
    by_cases hC : C S1
    · rw [if_pos hC] at p1
      have hok1 := hok ι1 e1 S1 σ1 H1 f1 r1 hC
      cases q : m ds[i] e1 with
      | none => rw [q] at p1; exact p1.elim
      | some e2 =>
        rw [q] at p1
        refine .inr ⟨wk.go i ι1 H1 hi hok1, fun σ3 H3 => ∃ ι3 e3 S3, Fr ι ι3 H H3 ∧ Rel K cA B ι3 e3 S3 σ3 H3 ∧ PoS K cA W B (forD C m body (ds.drop (i + 1)) e3 S3) ι3 H3 D', fun σ3 H3 ⟨ι3, e3, S3, f3, r3, p3⟩ => ⟨n - 1, by omega, by omega, ι3, e3, S3, f3, r3, p3⟩, fun x H2 y => ?_⟩
        obtain ⟨sm, rd⟩ := wk.yld i ι1 H1 x H2 ds[i] (List.getElem?_eq_getElem hi) hok1 y
        have r1' : Rel K cA B ι1 e1 S1 σ1 H2 := r1.fr (Fr.same sm) (r1.rs.same sm)
        refine ht B ι1 e1 e2 S1 σ1 H2 ds[i] x _ r1' rd q fun σ2 r2 _ => .of r2 ?_
        have f2 : Fr ι ι1 H H2 := f1.trans (Fr.same sm)
        simp only at p1
        cases q2 : body e2 S1 with
        | bad => rw [q2] at p1; exact p1
        | nx e3 S3 => rw [q2] at p1; exact fun ι3 σ3 H3 f3 r3 => ⟨ι3, e3, S3, f2.trans f3, r3, PoS.on ((Fr.same sm).trans f3) p1⟩
        | cont e3 S3 => rw [q2] at p1; exact fun ι3 σ3 H3 f3 r3 => ⟨ι3, e3, S3, f2.trans f3, r3, PoS.on ((Fr.same sm).trans f3) p1⟩
        | brk e3 S3 => rw [q2] at p1; exact fun ι3 σ3 H3 f3 r3 => p1 ι3 σ3 H3 ((Fr.same sm).trans f3) r3
        | ret d S3 => rw [q2] at p1; exact fun ι3 v H3 f3 r3 d3 => p1 ι3 v H3 ((Fr.same sm).trans f3) r3 d3
        | exc c e3 S3 => rw [q2] at p1; exact fun ι3 σ3 H3 f3 r3 => p1 ι3 σ3 H3 ((Fr.same sm).trans f3) r3
    · rw [if_neg hC] at p1; exact p1.elim
  · rw [List.drop_eq_nil_of_le (by omega)] at p1
    unfold forD at p1
    by_cases hC : C S1
    · rw [if_pos hC] at p1
      have e : i = ds.length := by omega
      subst e
      exact .inl ⟨wk.stop ι1 H1 (hok ι1 e1 S1 σ1 H1 f1 r1 hC), p1 ι1 σ1 H1 Fr.refl r1⟩
    · rw [if_neg hC] at p1; exact p1.elim
def iAny (K : PySem.W.Frag) (t : TE) : TI := fun σ H R => iList K t σ H R ∨ iTup K t σ H R ∨ iStr t σ H R
theorem pi_any {tg : Expr} {t : TE} (h : PE X a t) : PI X tg a (iAny X.K t) := ⟨fun pins s σ H R I q => by
  rcases q with q | q | q
  · exact (pi_list h).run pins s σ H R I q
  · exact (pi_tup h).run pins s σ H R I q
  · exact (pi_str h).run pins s σ H R I q⟩
/-- the items of what is walked -/
def items (S : Sto) (d : D) : Option (List D) := match view S d with
  | .lst ds => some ds
  | .tup ds => some ds
  | .str x => some (signs x)
  | _ => none
noncomputable def sFor (it : ME) (tg : MTg) (body : MS) : MS := fun e S => (it e S).bindS e fun d S1 => match items S1 d with
  | some ds => forD (fun S' => view S' d = view S1 d) tg body ds e S1
  | none => .bad
/-- what stands at v is walked by its items -/
theorem wk_any {S1 : Sto} {d : D} {v : V} {ds : List D} (rs : RS K cA B ι S1 H) (rd : RD K cA B ι H d v) (h : items S1 d = some ds) : (∃ a, v = .ref a ∧ (∃ xs, SqL K H a xs) ∧ ∃ ok, Wk K cA B (Itl K a) ds ok ∧ ∀ ι' S' H', Fr ι ι' H H' → RS K cA B ι' S' H' → view S' d = view S1 d → ok ι' H') ∨
    (∃ a, v = .ref a ∧ (∃ xs, SqT K H a xs) ∧ ∃ ok, Wk K cA B (Itt K a) ds ok ∧ ∀ ι' S' H', Fr ι ι' H H' → RS K cA B ι' S' H' → view S' d = view S1 d → ok ι' H') ∨ (∃ x, v = .str x ∧ ∃ ok, Wk K cA B (Its x) ds ok ∧ ∀ ι' S' H', Fr ι ι' H H' → RS K cA B ι' S' H' → view S' d = view S1 d → ok ι' H') := by
  unfold items at h
  split at h
  · rename_i es q
    cases h
    obtain ⟨a, xs, rfl, h1, h2⟩ := v_lst rs rd q
    refine .inl ⟨a, rfl, ⟨xs, h1⟩, _, wk_list, fun ι' S' H' f rs' hv => ?_⟩
    obtain ⟨a', ys, e, h3, h4⟩ := v_lst rs' (RD.fr f _ _ rd) (hv.trans q)
    cases e
    exact ⟨ys, h3, h4⟩
  · rename_i es q
    cases h
    obtain ⟨a, xs, rfl, h1, h2⟩ := v_tup rd q
    refine .inr (.inl ⟨a, rfl, ⟨xs, h1.sq⟩, _, wk_tup, fun ι' S' H' f rs' hv => ?_⟩)
    exact ⟨xs, h1.fr f, RDs.fr f _ _ h2⟩
  · rename_i x q
    cases h
    exact .inr (.inr ⟨x, v_str rd q, _, wk_str, fun _ _ _ _ _ _ => True.intro⟩)
  · cases h
theorem s_for {g : TG} {m : MTg} {sl : List Nat} {tg it : Expr} {body : List Stmt} {mi : ME} (hp : PassesOwn (model X.prog X.w) X.A X.env X.xe) (hc : X.calm = true) (hi : PE X it (tE X.K cA W mi)) (hg : PG X tg g) (ht : TgD X.K cA g m sl) (hb : PSs X body (tS X.K cA W sb))
    (hs : ∀ x, foldedSetIterable it X.env x = pure x := by intro _; rfl) : PS X (.For tg it body [] pos) (tS X.K cA W (sFor mi m sb)) := PSi (ps_for hp hc (pi_any hi) hg hb hs) fun D' σ H ⟨B, ι, e, S, re, p⟩ => by
  unfold sFor RE.bindS at p
  show iAny X.K _ σ H _
  cases q : mi e S with
  | bad => rw [q] at p; exact p.elim
  | exc c S1 => rw [q] at p; exact .inl (.of re (by rw [q]; exact fun ι' H' fr rs => p ι' σ H' fr (re.fr fr rs)))
  | ok d S1 =>
    rw [q] at p
    simp only at p
    cases q2 : items S1 d with
    | none => rw [q2] at p; exact p.elim
    | some ds =>
      rw [q2] at p
      simp only at p
      -- which kind: told by the value's data alone
      have go : ∀ {ι1 H1 v}, Fr ι ι1 H H1 → RS X.K cA B ι1 S1 H1 → RD X.K cA B ι1 H1 d v → _ := fun {ι1 H1 v} f1 rs1 rd1 => wk_any rs1 rd1 q2
      have fin : ∀ {ι1 H1 J ok}, Fr ι ι1 H H1 → RS X.K cA B ι1 S1 H1 → Wk X.K cA B J ds ok → (∀ ι' S' H', Fr ι1 ι' H1 H' → RS X.K cA B ι' S' H' → view S' d = view S1 d → ok ι' H') → _ := fun {ι1 H1 J ok} f1 rs1 wk hok =>
        for_wk (C := fun S' => view S' d = view S1 d) (g := g) (m := m) (body := sb) (D' := D') wk ht (fun ι' e S' σ H' f r c => hok ι' S' H' f r.rs c) (re.fr f1 rs1) (PoS.on f1 p)
      unfold items at q2
      split at q2
      · refine .inl (.of re ?_)
        rw [q]
        intro ι1 v H1 f1 rs1 rd1
        rename_i es hv
        obtain ⟨a, xs, rfl, h1, h2⟩ := v_lst rs1 rd1 hv
        cases q2
        refine ⟨a, rfl, ⟨xs, h1⟩, fin f1 rs1 wk_list fun ι' S' H' f rs' hv' => ?_⟩
        obtain ⟨a', ys, e', h3, h4⟩ := v_lst rs' (RD.fr f _ _ rd1) (hv'.trans hv)
        cases e'
        exact ⟨ys, h3, h4⟩
      · refine .inr (.inl (.of re ?_))
        rw [q]
        intro ι1 v H1 f1 rs1 rd1
        rename_i es hv
        obtain ⟨a, xs, rfl, h1, h2⟩ := v_tup rd1 hv
        cases q2
        exact ⟨a, rfl, ⟨xs, h1.sq⟩, fin f1 rs1 wk_tup fun ι' S' H' f rs' hv' => ⟨xs, h1.fr f, RDs.fr f _ _ h2⟩⟩
      · refine .inr (.inr (.of re ?_))
        rw [q]
        intro ι1 v H1 f1 rs1 rd1
        rename_i x hv
        cases q2
        exact ⟨x, v_str rd1 hv, fin f1 rs1 wk_str fun _ _ _ _ _ _ => True.intro⟩
      · cases q2
/-- for .. in range(n) -/
noncomputable def sForR (it : ME) (tg : MTg) (body : MS) : MS := fun e S => (it e S).bindS e fun d S1 => match d with
  | .int n => if -(2 ^ 62) ≤ n ∧ n < 2 ^ 62 then forD (fun _ => True) tg body (rng 0 n.toNat) e S1 else .bad
  | _ => .bad
theorem s_forR {g : TG} {m : MTg} {sl : List Nat} {tg : Expr} {body : List Stmt} {mi : ME} {p : Pos} {pos' : Pos} (hp : PassesOwn (model X.prog X.w) X.A X.env X.xe) (hc : X.calm = true) (hgl : Gl X "range") (hm : X.mg "range" = none) (hi : PA X [a] (tA X.K cA W (aC mi aN))) (hg : PG X tg g) (ht : TgD X.K cA g m sl) (hb : PSs X body (tS X.K cA W sb))
    (hs : ∀ x, foldedSetIterable (.Call (.Name "range" p) [a] [] pos') X.env x = pure x := by intro _; rfl) (hst : starEach [a] X.env = [(false, eval a X.env)] := by rfl) : PS X (.For tg (.Call (.Name "range" p) [a] [] pos') body [] pos) (tS X.K cA W (sForR mi m sb)) :=
  PSi (ps_for hp hc (pi_range1 hgl hm hi hst) hg hb hs) fun D' σ H ⟨B, ι, e, S, re, p⟩ => by
  unfold sForR RE.bindS at p
  refine (show tA X.K cA W (aC mi aN) σ H _ from .of re ?_)
  unfold aC RE.bindA
  cases q : mi e S with
  | bad => rw [q] at p; exact p.elim
  | exc c S1 => rw [q] at p; exact fun ι' H' fr rs => p ι' σ H' fr (re.fr fr rs)
  | ok d S1 =>
    rw [q] at p
    simp only at p
    intro ι1 vs H1 f1 rs1 rd1
    split at p
    · rename_i n
      split at p
      · rename_i hn
        obtain ⟨v, rfl, rd2⟩ := rd1.one
        refine ⟨n, by rw [rd2.int], hn.1, hn.2, ?_⟩
        exact for_wk (C := fun _ => True) (g := g) (m := m) (body := sb) (D' := D') wk_rng ht (fun _ _ _ _ _ _ _ _ => True.intro) (re.fr f1 rs1) (PoS.on f1 p)
      · exact p.elim
    · exact p.elim
/-! ### while -/
/-- the turns, n of them at most -/
def whD (c : MB) (body : MS) : Nat → En → Sto → RS'
  | 0, _, _ => .bad
  | n + 1, e, S => (c e S).bindS e fun k S1 => if k = true then match body e S1 with
      | .nx e2 S2 => whD c body n e2 S2
      | .cont e2 S2 => whD c body n e2 S2
      | .brk e2 S2 => .nx e2 S2
      | r => r
    else .nx e S1
theorem whD_mono {c : MB} {body : MS} : ∀ {n : Nat} {e : En} {S : Sto}, whD c body n e S ≠ .bad → whD c body (n + 1) e S = whD c body n e S
  | 0, e, S, h => absurd rfl h
  | n + 1, e, S, h => by
    rw [whD] at h
    rw [whD, whD]
    unfold RB.bindS at h ⊢
    cases q : c e S with
    | bad => rfl
    | exc _ _ => rfl
    | ok k S1 =>
      rw [q] at h
      simp only at h ⊢
      by_cases hk : k = true
      · rw [if_pos hk] at h ⊢
        rw [if_pos hk]
        cases q2 : body e S1 with
        | nx e2 S2 => rw [q2] at h; exact whD_mono h
        | cont e2 S2 => rw [q2] at h; exact whD_mono h
        | _ => rfl
      · rw [if_neg hk, if_neg hk]
theorem whD_le {c : MB} {body : MS} {n m : Nat} {e : En} {S : Sto} (h : whD c body n e S ≠ .bad) (hm : n ≤ m) : whD c body m e S = whD c body n e S := by
  induction hm with
  | refl => rfl
  | step _ ih => rw [whD_mono (by rw [ih]; exact h), ih]
open Classical in
noncomputable def sWh (c : MB) (body : MS) : MS := fun e S => if h : ∃ n, whD c body n e S ≠ .bad then whD c body h.choose e S else .bad
theorem sWh_of {c : MB} {body : MS} {n : Nat} {e : En} {S : Sto} {r : RS'} (h : whD c body n e S = r) (hr : r ≠ .bad) : sWh c body e S = r := by
  have h' : whD c body n e S ≠ .bad := by rw [h]; exact hr
  have hx : ∃ n, whD c body n e S ≠ .bad := ⟨n, h'⟩
  unfold sWh
  rw [dif_pos hx]
  rcases Nat.le_total n hx.choose with z | z
  · rw [whD_le h' z, h]
  · rw [← whD_le hx.choose_spec z, h]
theorem s_wh {xc : MB} {body : List Stmt} (hp : PassesOwn (model X.prog X.w) X.A X.env X.xe) (hc : PT X c (tT X.K cA W xc)) (hb : PSs X body (tS X.K cA W sb)) : PS X (.While c body [] pos) (tS X.K cA W (sWh xc sb)) := PSi (ps_while hp hc hb) fun D' σ H ⟨B, ι, e, S, re, p⟩ => by
  unfold sWh at p
  split at p
  · rename_i hx
    generalize hx.choose = n at p
    refine ⟨fun n σ1 H1 => ∃ ι1 e1 S1, Fr ι ι1 H H1 ∧ Rel X.K cA B ι1 e1 S1 σ1 H1 ∧ PoS X.K cA W B (whD xc sb n e1 S1) ι1 H1 D', ⟨n, ι, e, S, Fr.refl, re, p⟩, ?_⟩
    rintro n σ1 H1 ⟨ι1, e1, S1, f1, r1, p1⟩
    cases n with
    | zero => exact p1.elim
    | succ n =>
      rw [whD] at p1
      refine .of r1 (poB_bindS r1 p1 fun ι2 H2 k S2 f2 r2 p2 => ?_)
      cases k with
      | false => exact p2 ι2 σ1 H2 Fr.refl r2
      | true =>
        refine ⟨fun σ3 H3 => ∃ ι3 e3 S3, Fr ι ι3 H H3 ∧ Rel X.K cA B ι3 e3 S3 σ3 H3 ∧ PoS X.K cA W B (whD xc sb n e3 S3) ι3 H3 D', fun σ3 H3 ⟨ι3, e3, S3, f3, r3, p3⟩ => ⟨n, Nat.lt_succ_self _, ι3, e3, S3, f3, r3, p3⟩, .of r2 ?_⟩
        rw [if_pos rfl] at p2
        cases q2 : sb e1 S2 with
        | bad => rw [q2] at p2; exact p2
        | nx e3 S3 => rw [q2] at p2; exact fun ι3 σ3 H3 f3 r3 => ⟨ι3, e3, S3, (f1.trans f2).trans f3, r3, PoS.on f3 p2⟩
        | cont e3 S3 => rw [q2] at p2; exact fun ι3 σ3 H3 f3 r3 => ⟨ι3, e3, S3, (f1.trans f2).trans f3, r3, PoS.on f3 p2⟩
        | brk e3 S3 => rw [q2] at p2; exact p2
        | ret d S3 => rw [q2] at p2; exact p2
        | exc c e3 S3 => rw [q2] at p2; exact p2
  · exact p.elim
end
end DL

/-! The data layer: comprehensions, functions, calls. -/
namespace DL
open PySem PySem.Spec PyProof.Rows L2
section
variable {X : Cx} {K : PySem.W.Frag} {cA : Str → Addr} {W : WX} {B B' : Addr → Prop} {ι ι' : List Addr} {S : Sto} {H H' : Hp} {σ : L2.St} {e : En}
variable {a b c : Expr} {es : List Expr} {ma mb mc : ME} {xs : MA} {pos : Pos} {st : Stmt} {sts : List Stmt} {sa sb : MS}

/-! ### another region of changing things, another heap -/
mutual
theorem RD.mv (hT : ∀ b xs, FT K B ι H b xs → FT K B' ι H' b xs) (hL : ∀ b xs, FL B ι H b xs → FL B' ι H' b xs) (hS : ∀ b xs, (b ∉ ι ∧ ¬ B b ∧ Rd H b (.lst xs)) → b ∉ ι ∧ ¬ B' b ∧ Rd H' b (.lst xs)) (hD : ∀ b (o : HO), b ∉ ι → ¬ B b → H b = some o → ¬ B' b ∧ H' b = some o) :
    ∀ (d : D) (v : V), RD K cA B ι H d v → RD K cA B' ι H' d v
  | .non, v, h => by rw [RD] at h ⊢; exact h
  | .bl b, v, h => by rw [RD] at h ⊢; exact h
  | .int i, v, h => by rw [RD] at h ⊢; exact h
  | .str x, v, h => by rw [RD] at h ⊢; exact h
  | .tup ds, v, h => by
    rw [RD] at h ⊢
    obtain ⟨a, xs, e, h1, h2⟩ := h
    exact ⟨a, xs, e, hT a xs h1, RDs.mv hT hL hS hD ds xs h2⟩
  | .lst ds, v, h => by
    rw [RD] at h ⊢
    obtain ⟨a, xs, e, h1, h2⟩ := h
    exact ⟨a, xs, e, hL a xs h1, RDs.mv hT hL hS hD ds xs h2⟩
  | .dct ks ds, v, h => by
    rw [RD] at h ⊢
    obtain ⟨a, xs, e, h1, h2, h3, h4, h5⟩ := h
    obtain ⟨h6, h7⟩ := hD a _ h1 h2 h3
    exact ⟨a, xs, e, h1, h6, h7, h4, RDs.mv hT hL hS hD ds xs h5⟩
  | .obj n, v, h => by
    rw [RD] at h ⊢
    exact h
  | .scr ds, v, h => by
    rw [RD] at h ⊢
    obtain ⟨a, xs, e, h1, h2⟩ := h
    exact ⟨a, xs, e, h1.imp (hS a xs) _root_.id, RDs.mv hT hL hS hD ds xs h2⟩
  | .exn c, v, h => by
    rw [RD] at h ⊢
    obtain ⟨a, e, h1, h2, h3⟩ := h
    obtain ⟨h6, h7⟩ := hD a _ h1 h2 h3
    exact ⟨a, e, h1, h6, h7⟩
theorem RDs.mv (hT : ∀ b xs, FT K B ι H b xs → FT K B' ι H' b xs) (hL : ∀ b xs, FL B ι H b xs → FL B' ι H' b xs) (hS : ∀ b xs, (b ∉ ι ∧ ¬ B b ∧ Rd H b (.lst xs)) → b ∉ ι ∧ ¬ B' b ∧ Rd H' b (.lst xs)) (hD : ∀ b (o : HO), b ∉ ι → ¬ B b → H b = some o → ¬ B' b ∧ H' b = some o) :
    ∀ (ds : List D) (vs : List V), RDs K cA B ι H ds vs → RDs K cA B' ι H' ds vs
  | [], vs, h => by rw [RDs] at h ⊢; exact h
  | d :: ds, vs, h => by
    rw [RDs] at h ⊢
    obtain ⟨v, r, e, h1, h2⟩ := h
    exact ⟨v, r, e, RD.mv hT hL hS hD d v h1, RDs.mv hT hL hS hD ds r h2⟩
end
theorem FT.mB {b : Addr} {ys : List V} (h : ∀ a, B' a → B a) : FT K B ι H b ys → FT K B' ι H b ys
  | .inl ⟨h1, h2, h3⟩ => .inl ⟨h1, fun z => h2 (h _ z), h3⟩
  | .inr x => .inr x
theorem RD.mB {d : D} {v : V} (h : ∀ a, B' a → B a) (r : RD K cA B ι H d v) : RD K cA B' ι H d v :=
  RD.mv (fun _ _ x => x.mB h) (fun _ _ ⟨h1, h2, h3⟩ => ⟨h1, fun z => h2 (h _ z), h3⟩) (fun _ _ ⟨h1, h2, h3⟩ => ⟨h1, fun z => h2 (h _ z), h3⟩) (fun b kvs _ h2 h3 => ⟨fun z => h2 (h _ z), h3⟩) d v r
theorem RDs.mB {d : List D} {v : List V} (h : ∀ a, B' a → B a) (r : RDs K cA B ι H d v) : RDs K cA B' ι H d v :=
  RDs.mv (fun _ _ x => x.mB h) (fun _ _ ⟨h1, h2, h3⟩ => ⟨h1, fun z => h2 (h _ z), h3⟩) (fun _ _ ⟨h1, h2, h3⟩ => ⟨h1, fun z => h2 (h _ z), h3⟩) (fun b kvs _ h2 h3 => ⟨fun z => h2 (h _ z), h3⟩) d v r
/-- a free place p set apart -/
def plus (B : Addr → Prop) (p : Addr) : Addr → Prop := fun a => B a ∨ a = p
theorem Rd.has {u : HO} {b : Addr} (h : Rd H b u) : ∃ o, H b = some o := by
  rcases h with h | ⟨o, h⟩ <;> exact ⟨_, h⟩
theorem RD.add {p : Addr} (np : H p = none) {d : D} {v : V} (r : RD K cA B ι H d v) : RD K cA (plus B p) ι H d v :=
  RD.mv (fun b xs x => by
      rcases x with ⟨h1, h2, h3⟩ | x
      · refine .inl ⟨h1, fun z => ?_, h3⟩
        rcases z with z | z
        · exact h2 z
        · obtain ⟨o, q⟩ := Rd.has h3; rw [z, np] at q; cases q
      · exact .inr x)
    (fun b xs ⟨h1, h2, h3⟩ => by
      refine ⟨h1, fun z => ?_, h3⟩
      rcases z with z | z
      · exact h2 z
      · rw [z, np] at h3; cases h3)
    (fun b xs ⟨h1, h2, h3⟩ => by
      refine ⟨h1, fun z => ?_, h3⟩
      rcases z with z | z
      · exact h2 z
      · obtain ⟨o, q⟩ := Rd.has h3; rw [z, np] at q; cases q)
    (fun b kvs h1 h2 h3 => by
      refine ⟨fun z => ?_, h3⟩
      rcases z with z | z
      · exact h2 z
      · rw [z, np] at h3; cases h3) d v r
theorem RDs.add {p : Addr} (np : H p = none) {d : List D} {v : List V} (r : RDs K cA B ι H d v) : RDs K cA (plus B p) ι H d v := by
  induction d generalizing v with
  | nil => rw [r.nil_inv]; exact .nil
  | cons d ds ih =>
    obtain ⟨u, t, rfl, h1, h2⟩ := r.cons_inv
    exact .cons (h1.add np) (ih h2)
/-- what is set apart may change -/
theorem RD.app {p : Addr} {o : HO} {d : D} {v : V} (r : RD K cA (plus B p) ι H d v) : RD K cA (plus B p) ι (upd H p o) d v :=
  RD.mv (fun b xs x => by
      rcases x with ⟨h1, h2, h3⟩ | x
      · have hb : b ≠ p := fun z => h2 (.inr z)
        exact .inl ⟨h1, h2, by unfold Rd; rw [upd_ne hb]; exact h3⟩
      · exact .inr x)
    (fun b xs ⟨h1, h2, h3⟩ => by
      have hb : b ≠ p := fun z => h2 (.inr z)
      exact ⟨h1, h2, by rw [upd_ne hb]; exact h3⟩)
    (fun b xs ⟨h1, h2, h3⟩ => by
      have hb : b ≠ p := fun z => h2 (.inr z)
      exact ⟨h1, h2, by unfold Rd; rw [upd_ne hb]; exact h3⟩)
    (fun b kvs h1 h2 h3 => by
      have hb : b ≠ p := fun z => h2 (.inr z)
      exact ⟨h2, by rw [upd_ne hb]; exact h3⟩) d v r
theorem RDs.app {p : Addr} {o : HO} {d : List D} {v : List V} (r : RDs K cA (plus B p) ι H d v) : RDs K cA (plus B p) ι (upd H p o) d v := by
  induction d generalizing v with
  | nil => rw [r.nil_inv]; exact .nil
  | cons d ds ih =>
    obtain ⟨u, t, rfl, h1, h2⟩ := r.cons_inv
    exact .cons h1.app (ih h2)
theorem RO.mv {a : Addr} {c : Cell} (f : ∀ d v, RDs K cA B ι H d v → RDs K cA B' ι H' d v) (ha : H' a = H a) (h : RO K cA B ι H a c) : RO K cA B' ι H' a c := by
  cases c with
  | lst ds => obtain ⟨xs, h1, h2⟩ := h; exact ⟨xs, by rw [ha]; exact h1, f _ _ h2⟩
  | dct ks ds => obtain ⟨xs, h1, h2, h3⟩ := h; exact ⟨xs, by rw [ha]; exact h1, h2, f _ _ h3⟩
  | ins C fs => obtain ⟨dx, xs, h1, h2, h3⟩ := h; exact ⟨dx, xs, by rw [ha]; exact h1, h2, f _ _ h3⟩
theorem RS.apart (r : RS K cA B ι S H) {p : Addr} {o : HO} (np : H p = none) : RS K cA (plus B p) ι S (upd H p o) := by
  have hp := not_in r np
  refine ⟨r.len, r.nd, fun a z => ?_, fun i c h => ?_⟩
  · rcases z with z | z
    · obtain ⟨h1, o', h2⟩ := r.nB a z
      exact ⟨h1, o', by rw [upd_ne (ne_of_none h2 np)]; exact h2⟩
    · subst z; exact ⟨hp, o, upd_same⟩
  · obtain ⟨a, h1, h2⟩ := r.at_ i c h
    obtain ⟨o', ho⟩ := h2.has
    exact ⟨a, h1, h2.mv (fun d v x => (x.add np).app) (by rw [upd_ne (ne_of_none ho np)])⟩
theorem RS.app {p : Addr} {o : HO} (r : RS K cA (plus B p) ι S H) : RS K cA (plus B p) ι S (upd H p o) := by
  obtain ⟨hp, o1, ho1⟩ := r.nB p (.inr rfl)
  refine ⟨r.len, r.nd, fun a z => ?_, fun i c h => ?_⟩
  · obtain ⟨h1, o', h2⟩ := r.nB a z
    refine ⟨h1, ?_⟩
    by_cases e : a = p
    · subst e; exact ⟨o, upd_same⟩
    · exact ⟨o', by rw [upd_ne e]; exact h2⟩
  · obtain ⟨a, h1, h2⟩ := r.at_ i c h
    have : a ≠ p := fun e => hp (e ▸ List.mem_of_getElem? h1)
    exact ⟨a, h1, h2.mv (fun d v x => x.app) (by rw [upd_ne this])⟩
theorem RS.less {p : Addr} (r : RS K cA (plus B p) ι S H) : RS K cA B ι S H :=
  ⟨r.len, r.nd, fun a z => r.nB a (.inl z), fun i c h => let ⟨a, h1, h2⟩ := r.at_ i c h; ⟨a, h1, h2.mv (fun d v x => x.mB fun _ z => .inl z) rfl⟩⟩

/-! ### comprehensions -/
def wipeE (e : En) : List Nat → En
  | [] => e
  | v :: vs => (wipeE e vs).set v none
theorem Rel.none (r : Rel K cA B ι e S σ H) (i : Nat) : Rel K cA B ι (e.set i .none) S (σ.set i .none) H := ⟨r.rs, by rw [List.length_set, List.length_set]; exact r.len, fun j d' h => by
  by_cases hj : i = j
  · subst hj
    by_cases hi : i < e.length
    · rw [List.getElem?_set_self hi] at h; cases h
    · rw [List.getElem?_eq_none (by rw [List.length_set]; omega)] at h; cases h
  · rw [List.getElem?_set_ne hj] at h
    obtain ⟨u, h1, h2⟩ := r.ev j d' h
    exact ⟨u, by rw [List.getElem?_set_ne hj]; exact h1, h2⟩⟩
theorem Rel.wipe (r : Rel K cA B ι e S σ H) : ∀ vs : List Nat, Rel K cA B ι (wipeE e vs) S (wipe σ vs) H
  | [] => r
  | v :: vs => (Rel.wipe r vs).none v
open Classical in
noncomputable def lcD (C : Sto → Prop) (tg : MTg) (tt : MB) (el : ME) (e0 : En) : List D → List D → Sto → RE
  | [], acc, S => if C S then .ok (.lst acc) S else .bad
  | d :: ds, acc, S => if C S then match tg d e0 with
      | none => .bad
      | some e1 => match tt e1 S with
        | .ok true S1 => match el e1 S1 with
          | .ok x S2 => if acc.length < 16777216 then lcD C tg tt el e0 ds (acc ++ [x]) S2 else .bad
          | _ => .bad
        | .ok false S1 => lcD C tg tt el e0 ds acc S1
        | _ => .bad
    else .bad
def tYs : MB := fun _ S => .ok true S
noncomputable def eLc (it : ME) (tg : MTg) (tt : MB) (el : ME) (own : List Nat) : ME := fun e S => (it e S).bind fun d S1 => match items S1 d with
  | some ds => lcD (fun S' => view S' d = view S1 d) tg tt el (wipeE e own) ds [] S1
  | none => .bad
abbrev WF : WX := fun _ _ _ _ => False
theorem lc_wk {J : It} {ds : List D} {ok : List Addr → Hp → Prop} {C : Sto → Prop} {g : TG} {m : MTg} {sl : List Nat} {tt : MB} {el : ME} {own : List Nat} {Q : VK} {p : Addr} (wk : Wk K cA (plus B p) J ds ok) (ht : TgD K cA g m sl) (hsl : ∀ i ∈ sl, i ∈ own) (np : H p = none)
    (hok : ∀ ι' S' H', Fr ι ι' H H' → RS K cA (plus B p) ι' S' H' → C S' → ok ι' H') (r : Rel K cA B ι e S σ H) (po : PoE K cA W B (lcD C m tt el (wipeE e own) ds [] S) ι σ H Q) :
    ∃ Wd : Nat → Nat → Hp → Prop, (∃ n, Wd 0 n (upd H p (.lst []))) ∧ ∀ i n H, Wd i n H →
      (J.stop i H ∧ Q (.ref p) H) ∨ (J.go i H ∧ ∃ Nx : Hp → Prop, (∀ H', Nx H' → ∃ n', n' < n ∧ Wd (i + 1) n' H') ∧ ∀ x H', J.yld i H x H' → g x (wipe σ own) H' fun σ2 H2 => wipe σ2 own = wipe σ own ∧ tT K cA WF tt σ2 H2 fun b H3 =>
        if b = true then tE K cA WF el σ2 H3 fun y H4 => ∃ acc, H4 p = some (.lst acc) ∧ acc.length < sizeLine ∧ Nx (upd H4 p (.lst (acc ++ [y]))) else Nx H3) := by
  refine ⟨fun i n H1 => n + i = ds.length ∧ ∃ ι1 S1 acc vs, Fr ι ι1 H H1 ∧ Rel K cA (plus B p) ι1 (wipeE e own) S1 (wipe σ own) H1 ∧ H1 p = some (.lst vs) ∧ RDs K cA (plus B p) ι1 H1 acc vs ∧ PoE K cA W B (lcD C m tt el (wipeE e own) (ds.drop i) acc S1) ι σ H Q, ⟨ds.length, by simp, ι, S, [], [], Fr.same (same_new np), ?_, upd_same, .nil, by simpa using po⟩, ?_⟩
  · have rw := r.wipe own
    exact ⟨r.rs.apart np, rw.len, fun i d h => let ⟨v, h1, h2⟩ := rw.ev i d h; ⟨v, h1, (h2.add np).app⟩⟩
  rintro i n H1 ⟨hn, ι1, S1, acc, vs, f1, r1, hp1, ra, p1⟩
  have nB : ¬ B p := not_B r.rs np
  have hpB : ∀ {ι3 S3 H3}, RS K cA (plus B p) ι3 S3 H3 → p ∉ ι3 := fun rs => (rs.nB p (.inr rfl)).1
  by_cases hi : i < ds.length
  · rw [List.drop_eq_getElem_cons hi] at p1
    unfold lcD at p1
    by_cases hC : C S1
    · rw [if_pos hC] at p1
      have hok1 := hok ι1 S1 H1 f1 r1.rs hC
      cases q : m ds[i] (wipeE e own) with
      | none => rw [q] at p1; exact p1.elim
      | some e2 =>
        rw [q] at p1
        simp only at p1
        refine .inr ⟨wk.go i ι1 H1 hi hok1, fun H3 => ∃ ι1 S1 acc vs, Fr ι ι1 H H3 ∧ Rel K cA (plus B p) ι1 (wipeE e own) S1 (wipe σ own) H3 ∧ H3 p = some (.lst vs) ∧ RDs K cA (plus B p) ι1 H3 acc vs ∧ PoE K cA W B (lcD C m tt el (wipeE e own) (ds.drop (i + 1)) acc S1) ι σ H Q, fun H3 h => ⟨n - 1, by omega, by omega, h⟩, fun x H2 y => ?_⟩
        obtain ⟨sm, rd⟩ := wk.yld i ι1 H1 x H2 ds[i] (List.getElem?_eq_getElem hi) hok1 y
        have f12 : Fr ι1 ι1 H1 H2 := Fr.same sm
        have r1' : Rel K cA (plus B p) ι1 (wipeE e own) S1 (wipe σ own) H2 := r1.fr f12 (r1.rs.same sm)
        refine ht _ ι1 _ e2 S1 _ H2 ds[i] x _ r1' rd q fun σ2 r2 hw => ⟨?_, .of r2 ?_⟩
        · rw [hw own hsl, wipe_wipe]
        cases q2 : tt e2 S1 with
        | bad => rw [q2] at p1; exact p1
        | exc c S3 => rw [q2] at p1; exact p1.elim
        | ok k S3 =>
          rw [q2] at p1
          intro ι3 H3 f3 rs3
          have f13 : Fr ι1 ι3 H1 H3 := f12.trans f3
          have hp3 : H3 p = some (.lst vs) := f13.st _ _ hp1 (hpB r1.rs)
          cases k with
          | false =>
            rw [if_neg Bool.false_ne_true]
            exact ⟨ι3, S3, acc, vs, f1.trans f13, r1.fr f13 rs3, hp3, RDs.fr f13 _ _ ra, p1⟩
          | true =>
            rw [if_pos rfl]
            simp only at p1
            refine .of (r2.fr f3 rs3) ?_
            cases q3 : el e2 S3 with
            | bad => rw [q3] at p1; exact p1
            | exc c S4 => rw [q3] at p1; exact p1.elim
            | ok z S4 =>
              rw [q3] at p1
              intro ι4 v H4 f4 rs4 rd4
              have f14 : Fr ι1 ι4 H1 H4 := f13.trans f4
              have hp4 : H4 p = some (.lst vs) := f4.st _ _ hp3 (hpB rs3)
              simp only at p1
              by_cases hz : acc.length < 16777216
              · rw [if_pos hz] at p1
                have f4' := f1.trans f14
                have r4 := r1.fr f14 rs4
                refine ⟨vs, hp4, by rw [sizeL, ← ra.len]; exact hz, ι4, S4, acc ++ [z], vs ++ [v], ⟨f4'.pre, fun a o h h2 => by
                  rw [upd_ne (ne_of_none h np)]; exact f4'.st a o h h2⟩, ⟨r4.rs.app, r4.len, fun i d h => let ⟨v, h1, h2⟩ := r4.ev i d h; ⟨v, h1, h2.app⟩⟩, upd_same, ((RDs.fr f14 _ _ ra).append (.cons rd4 .nil)).app, p1⟩
              · rw [if_neg hz] at p1; exact p1.elim
    · rw [if_neg hC] at p1; exact p1.elim
  · rw [List.drop_eq_nil_of_le (by omega)] at p1
    unfold lcD at p1
    by_cases hC : C S1
    · rw [if_pos hC] at p1
      have e' : i = ds.length := by omega
      subst e'
      exact .inl ⟨wk.stop ι1 H1 (hok ι1 S1 H1 f1 r1.rs hC), p1 ι1 _ H1 f1 r1.rs.less (.mk_lst ⟨hpB r1.rs, nB, hp1⟩ (ra.mB fun _ z => .inl z))⟩
    · rw [if_neg hC] at p1; exact p1.elim
theorem items_st {S1 : Sto} {d : D} {v : V} {ds : List D} (rd : RD K cA B ι H d v) (h : items S1 d = some ds) : True := trivial
section
variable {it tg elt : Expr} {ifs : List Expr} {g : TG} {m : MTg} {sl : List Nat} {tt : MB} {el mi : ME} {own : List (Str × Nat)} {scope : Scope}
theorem lc_any (hg : TgD X.K cA g m sl) (hsl : ∀ i ∈ sl, i ∈ own.map (·.2)) : ∀ σ H Q, tE X.K cA W (eLc mi m tt el (own.map (·.2))) σ H Q → tLc (iAny X.K (tE X.K cA W mi)) g (tT X.K cA WF tt) (tE X.K cA WF el) (own.map (·.2)) σ H Q := fun σ H Q ⟨B, ι, e, S, re, p⟩ => by
  unfold eLc RE.bind at p
  show iAny X.K _ σ H _
  cases q : mi e S with
  | bad => rw [q] at p; exact p.elim
  | exc c S1 => rw [q] at p; exact .inl (.of re (by rw [q]; exact p))
  | ok d S1 =>
    rw [q] at p
    simp only at p
    cases q2 : items S1 d with
    | none => rw [q2] at p; exact p.elim
    | some ds =>
      rw [q2] at p
      simp only at p
      have fin : ∀ {ι1 H1 J} {ok : List Addr → Hp → Prop} (p' : Addr), Fr ι ι1 H H1 → RS X.K cA B ι1 S1 H1 → H1 p' = none → Wk X.K cA (plus B p') J ds ok → (∀ ι' S' H', Fr ι1 ι' H1 H' → RS X.K cA (plus B p') ι' S' H' → view S' d = view S1 d → ok ι' H') → _ := fun {ι1 H1 J ok} p' f1 rs1 np wk hok =>
        lc_wk (W := W) (C := fun S' => view S' d = view S1 d) (g := g) (m := m) (tt := tt) (el := el) (own := own.map (·.2)) (Q := Q) wk hg hsl np (fun ι' S' H' f r c => hok ι' S' H' f r c) (re.fr f1 rs1) (by
          revert p
          cases lcD (fun S' => view S' d = view S1 d) m tt el (wipeE e (own.map (·.2))) ds [] S1 with
          | bad => exact _root_.id
          | ok d2 S2 => exact fun h ι2 v2 H2 f2 r2 d2 => h ι2 v2 H2 (f1.trans f2) r2 d2
          | exc c S2 => exact fun h ι2 H2 f2 r2 => h ι2 H2 (f1.trans f2) r2)
      unfold items at q2
      split at q2
      · refine .inl (.of re ?_)
        rw [q]
        intro ι1 v H1 f1 rs1 rd1
        rename_i es hv
        obtain ⟨a, xs, rfl, h1, h2⟩ := v_lst rs1 rd1 hv
        cases q2
        refine ⟨a, rfl, ⟨xs, h1⟩, fun p' np => fin p' f1 rs1 np wk_list fun ι' S' H' f rs' hv' => ?_⟩
        obtain ⟨a', ys, e', h3, h4⟩ := v_lst rs' (RD.fr f _ _ (rd1.add np)) (hv'.trans hv)
        cases e'
        exact ⟨ys, h3, h4⟩
      · refine .inr (.inl (.of re ?_))
        rw [q]
        intro ι1 v H1 f1 rs1 rd1
        rename_i es hv
        obtain ⟨a, xs, rfl, h1, h2⟩ := v_tup rd1 hv
        cases q2
        refine ⟨a, rfl, ⟨xs, h1.sq⟩, fun p' np => fin p' f1 rs1 np wk_tup fun ι' S' H' f rs' hv' => ?_⟩
        have hd : d = .tup _ := view_ne hv (by intro _ z; cases z) (by intro _ _ z; cases z)
        subst hd
        obtain ⟨a', ys, e', h3, h4⟩ := ((RD.fr f _ _ (rd1.add np)).tup : ∃ a xs, _)
        cases e'
        exact ⟨ys, h3, h4⟩
      · refine .inr (.inr (.of re ?_))
        rw [q]
        intro ι1 v H1 f1 rs1 rd1
        rename_i x hv
        cases q2
        exact ⟨x, v_str rd1 hv, fun p' np => fin p' f1 rs1 np wk_str fun _ _ _ _ _ _ => True.intro⟩
      · cases q2
theorem q_lc (ht : TgD X.K cA g m sl) (hsl : ∀ i ∈ sl, i ∈ own.map (·.2)) (hc : X.calm = true) (hN : X.N.Nodup) (hi : PE X it (tE X.K cA W mi)) (ok : BlkOk X.N X.env.scope scope own)
    (hg : ∀ (s : Shared) (H : Hp) (C : Addr) (cl : List (Str × Addr)) (fp : List Addr), PG (X.blk s H scope (compEnvC scope cl C X.env) fp) tg g) (hx : ∀ (s : Shared) (H : Hp) (C : Addr) (cl : List (Str × Addr)) (fp : List Addr), PTs (X.blk s H scope (compEnvC scope cl C X.env) fp) ifs (tT X.K cA WF tt))
    (he : ∀ (s : Shared) (H : Hp) (C : Addr) (cl : List (Str × Addr)) (fp : List Addr), PE (X.blk s H scope (compEnvC scope cl C X.env) fp) elt (tE X.K cA WF el)) (hs : ∀ x, foldedSetIterable it X.env x = pure x := by intro _; rfl) :
    PE X (.ListComp elt [⟨tg, it, ifs, 0⟩] scope pos) (tE X.K cA W (eLc mi m tt el (own.map (·.2)))) := PEi (pe_lc hc hN (pi_any hi) ok hg hx he hs) (lc_any ht hsl)
theorem s_setLc {i : Nat} {y : Str} {py spos : Pos} (ht : TgD X.K cA g m sl) (hsl : ∀ i ∈ sl, i ∈ own.map (·.2)) (hc : X.calm = true) (hN : X.N.Nodup) (hy : X.N[i]? = some y) (hyl : X.env.scope.names.lookup y = some .local)
    (hsw : swapsWith (.ListComp elt [⟨tg, it, ifs, 0⟩] scope pos) (some (.Name y py)) spos.line X.env = pure true) (hi : PE X it (tE X.K cA W mi)) (ok : BlkOk X.N X.env.scope scope own)
    (hg : ∀ (s : Shared) (H : Hp) (C : Addr) (cl : List (Str × Addr)) (fp : List Addr), PG (X.blk s H scope (compEnvC scope cl C X.env) fp) tg g) (hx : ∀ (s : Shared) (H : Hp) (C : Addr) (cl : List (Str × Addr)) (fp : List Addr), PTs (X.blk s H scope (compEnvC scope cl C X.env) fp) ifs (tT X.K cA WF tt))
    (he : ∀ (s : Shared) (H : Hp) (C : Addr) (cl : List (Str × Addr)) (fp : List Addr), PE (X.blk s H scope (compEnvC scope cl C X.env) fp) elt (tE X.K cA WF el)) (hs : ∀ x, foldedSetIterable it X.env x = pure x := by intro _; rfl) :
    PS X (.Assign [.Name y py] (.ListComp elt [⟨tg, it, ifs, 0⟩] scope pos) spos) (tS X.K cA W (sSet i (eLc mi m tt el (own.map (·.2))))) :=
  PSi (ps_setLc hc hN hy hyl hsw (pi_any hi) ok hg hx he hs) fun D' σ H ⟨B, ι, e, S, re, p⟩ => lc_any ht hsl σ H _ (.of re (po_bindS re p fun ι1 v1 H1 d1 S1 f1 r1 rd1 p1 => p1 ι1 _ H1 Fr.refl (r1.set rd1)))
theorem x_nil : PTs X [] (tT X.K cA W tYs) := ⟨fun pins s σ H Q I ⟨B, ι, e, S, re, p⟩ => pts_nil.run pins s σ H Q I (p ι H Fr.refl re.rs)⟩
theorem x_one {xa : MB} (h : PT X a (tT X.K cA W xa)) : PTs X [a] (tT X.K cA W xa) := pts_one h
end
end
end DL

/-! The data layer: functions and calls. -/
namespace DL
open PySem PySem.Spec PyProof.Rows L2

/-! ### data that hold no cell -/
mutual
def cl : D → Bool
  | .tup ds => cls ds
  | .lst ds => cls ds
  | .dct _ ds => cls ds
  | .obj _ => false
  | .scr ds => cls ds
  | _ => true
def cls : List D → Bool
  | [] => true
  | d :: ds => cl d && cls ds
end
/-- data without a cell, or a cell -/
def flatO : D → Bool
  | .obj _ => true
  | d => cl d
def tops (ds : List D) : List Nat := ds.filterMap fun d => match d with | .obj n => some n | _ => none
/-- what stands in a cell -/
def cds : Cell → List D
  | .lst ds => ds
  | .dct _ ds => ds
  | .ins _ fs => fs.map (·.2)
def kids (c : Cell) : List Nat := tops (cds c)
def okC (c : Cell) : Bool := (cds c).all flatO
/-- the cells that are reached -/
def clo (S : Sto) : Nat → List Nat → List Nat → List Nat
  | 0, _, dn => dn
  | _ + 1, [], dn => dn
  | f + 1, n :: t, dn => if n ∈ dn then clo S f t dn else match S[n]? with
    | some c => clo S f (t ++ kids c) (dn ++ [n])
    | none => clo S f t dn
/-- names of cells, in and out -/
def mapO (f : Nat → Nat) : D → D
  | .obj n => .obj (f n)
  | d => d
def mapC (f : Nat → Nat) : Cell → Cell
  | .lst ds => .lst (ds.map (mapO f))
  | .dct ks ds => .dct ks (ds.map (mapO f))
  | .ins C fs => .ins C (fs.map fun p => (p.1, mapO f p.2))
def inj1 (js : List Nat) : D → Bool
  | .obj n => decide (n ∈ js)
  | _ => true
def inC (js : List Nat) (c : Cell) : Bool := (cds c).all (inj1 js)
/-- a cell that holds no cell -/
def clC (c : Cell) : Bool := cls (cds c)
theorem cls_flat : ∀ {ds : List D}, cls ds = true → ds.all flatO = true
  | [], _ => rfl
  | d :: ds, h => by
    rw [cls, Bool.and_eq_true] at h
    rw [List.all_cons, cls_flat h.2, Bool.and_true]
    cases d <;> first | exact h.1 | rfl
theorem cl_inj {js : List Nat} : ∀ {d : D}, cl d = true → inj1 js d = true := fun {d} h => by
  cases d with
  | obj n => rw [cl] at h; cases h
  | _ => rfl
theorem cl_mapO {f : Nat → Nat} : ∀ {d : D}, cl d = true → mapO f d = d := fun {d} h => by
  cases d with
  | obj n => rw [cl] at h; cases h
  | _ => rfl
theorem cls_inj {js : List Nat} : ∀ {ds : List D}, cls ds = true → ds.all (inj1 js) = true
  | [], _ => rfl
  | d :: ds, h => by
    rw [cls, Bool.and_eq_true] at h
    rw [List.all_cons, cls_inj h.2, cl_inj h.1]; rfl
theorem cls_mapO {f : Nat → Nat} : ∀ {ds : List D}, cls ds = true → ds.map (mapO f) = ds
  | [], _ => rfl
  | d :: ds, h => by
    rw [cls, Bool.and_eq_true] at h
    rw [List.map_cons, cls_mapO h.2, cl_mapO h.1]
theorem cls_tops : ∀ {ds : List D}, cls ds = true → tops ds = []
  | [], _ => rfl
  | d :: ds, h => by
    rw [cls, Bool.and_eq_true] at h
    have := cls_tops h.2
    unfold tops at this ⊢
    rw [List.filterMap_cons]
    cases d with
    | obj n => rw [cl] at h; cases h.1
    | _ => exact this
theorem clC_kids {c : Cell} (h : clC c = true) : kids c = [] := cls_tops h
theorem clC_okC {c : Cell} (h : clC c = true) : okC c = true := cls_flat h
theorem clC_inC {c : Cell} (h : clC c = true) (js : List Nat) : inC js c = true := cls_inj h
theorem clC_mapC {c : Cell} (h : clC c = true) (f : Nat → Nat) : mapC f c = c := by
  cases c with
  | lst ds => exact congrArg Cell.lst (cls_mapO h)
  | dct ks ds => exact congrArg (Cell.dct ks) (cls_mapO h)
  | ins C fs =>
    refine congrArg (Cell.ins C) ?_
    have : ∀ {fs : List (Str × D)}, cls (fs.map (·.2)) = true → (fs.map fun p => (p.1, mapO f p.2)) = fs := fun {fs} => by
      induction fs with
      | nil => exact fun _ => rfl
      | cons p t ih =>
        intro h
        rw [List.map_cons, cls, Bool.and_eq_true] at h
        rw [List.map_cons, ih h.2, cl_mapO h.1]
    exact this h
/-- how a call's cells come back: the first ones in their places, the others behind -/
def outN (js : List Nat) (L : Nat) (n : Nat) : Nat := if n < js.length then js.getD n 0 else L + (n - js.length)
def back (js : List Nat) (S S2 : Sto) : Sto := (S.mapIdx fun k c => if k ∈ js then mapC (outN js S.length) (S2.getD (js.idxOf k) c) else c) ++ (S2.drop js.length).map (mapC (outN js S.length))
def goodC (js : List Nat) (S : Sto) (j : Nat) : Bool := match S[j]? with | some c => okC c && inC js c | none => false
def callJ (m : MF) (ds : List D) (S : Sto) (js : List Nat) : RE :=
  if (decide js.Nodup && ds.all flatO && ds.all (inj1 js) && js.all (goodC js S)) = true then
    match m (ds.map (mapO js.idxOf)) (js.map fun j => mapC js.idxOf (S.getD j (.lst []))) with
    | .ok d S2 => if (flatO d && S2.all okC) = true then .ok (mapO (outN js S.length) d) (back js S S2) else .bad
    | .exc c S2 => if S2.all okC = true then .exc c (back js S S2) else .bad
    | .bad => .bad
  else .bad
def callS (m : MF) (ds : List D) (S : Sto) : RE := callJ m ds S (clo S 100 (tops ds) [])
def eCall (m : MF) (am : MA) : ME := fun e S => (am e S).bind fun ds S1 => callS m ds S1

/-- a function's body -/
def fnK (N : Nat) (body : MS) : MF := fun ds S => match body (ds.map some ++ List.replicate (N - ds.length) none) S with
  | .nx _ S' => .ok .non S'
  | .ret d S' => .ok d S'
  | .exc c _ S' => .exc c S'
  | _ => .bad
mutual
def low (k : Nat) : D → Bool
  | .tup ds => lows k ds
  | .lst ds => lows k ds
  | .dct _ ds => lows k ds
  | .obj n => decide (n < k)
  | .scr ds => lows k ds
  | _ => true
def lows (k : Nat) : List D → Bool
  | [] => true
  | d :: ds => low k d && lows k ds
end
def lowC (k : Nat) : Cell → Bool
  | .lst ds => lows k ds
  | .dct _ ds => lows k ds
  | .ins _ fs => fs.all fun p => low k p.2
/-- what is handed back stands still -/
def still (k : Nat) (S : Sto) : D → D
  | .obj n => if k ≤ n then match S[n]? with | some (.lst ds) => .lst ds | some (.dct ks ds) => .dct ks ds | _ => .obj n else .obj n
  | d => d
/-- a function of whose new cells nothing is left -/
def fnD (N : Nat) (body : MS) : MF := fun ds S => match fnK N body ds S with
  | .ok d S' => if low S.length (still S.length S' d) = true ∧ (S'.take S.length).all (lowC S.length) = true then .ok (still S.length S' d) (S'.take S.length) else .bad
  | .exc c S' => if (S'.take S.length).all (lowC S.length) = true then .exc c (S'.take S.length) else .bad
  | .bad => .bad

section
variable {X : Cx} {K : PySem.W.Frag} {cA : Str → Addr} {W : WX} {B B' : Addr → Prop} {ι ι' : List Addr} {S : Sto} {H H' : Hp} {σ : L2.St} {e : En}
/-- the promise -/
def PoF (K : PySem.W.Frag) (cA : Str → Addr) (B : Addr → Prop) (r : RE) (ι : List Addr) (H : Hp) (Q : VK) (E : XK) : Prop :=
  match r with
  | .ok d S => ∀ ι' v H', Fr ι ι' H H' → RS K cA B ι' S H' → RD K cA B ι' H' d v → Q v H'
  | .exc c S => ∀ ι' H', Fr ι ι' H H' → RS K cA B ι' S H' → E (.ref (cA c)) none H'
  | .bad => False
def spM (K : PySem.W.Frag) (cA : Str → Addr) (n : Nat) (m : MF) : Sp := fun vs H Q E => ∃ B ι ds S, ds.length = n ∧ RDs K cA B ι H ds vs ∧ RS K cA B ι S H ∧ PoF K cA B (m ds S) ι H Q E
theorem RDs.getR : ∀ {ds : List D} {vs : List V}, RDs K cA B ι H ds vs → ∀ (n : Nat) (i : Nat) (d : D), (ds.map some ++ List.replicate n none)[i]? = some (some d) → ∃ v, (vs.map some ++ List.replicate n none)[i]? = some (some v) ∧ RD K cA B ι H d v := fun {ds vs} r n i d h => by
  by_cases hi : i < ds.length
  · rw [List.getElem?_append_left (by rw [List.length_map]; exact hi), List.getElem?_map] at h
    cases q : ds[i]? with
    | none => rw [q] at h; cases h
    | some d' =>
      rw [q] at h; cases h
      obtain ⟨v, h1, h2⟩ := r.get q
      exact ⟨v, by rw [List.getElem?_append_left (by rw [List.length_map, ← r.len]; exact hi), List.getElem?_map, h1]; rfl, h2⟩
  · rw [List.getElem?_append_right (by rw [List.length_map]; omega)] at h
    obtain ⟨_, h⟩ := List.getElem?_eq_some_iff.mp h
    simp at h
theorem rel_start {N : List Str} {ds : List D} {vs : List V} (r : RDs K cA B ι H ds vs) (rs : RS K cA B ι S H) : Rel K cA B ι (ds.map some ++ List.replicate (N.length - ds.length) none) S (L2.start N vs) H :=
  ⟨rs, by unfold L2.start; rw [List.length_append, List.length_append, List.length_map, List.length_map, List.length_replicate, List.length_replicate, r.len], fun i d h => by
    unfold L2.start
    rw [← r.len]
    exact r.getR _ i d h⟩
theorem body_ok {N : List Str} {body : MS} {ds : List D} {vs : List V} {Q : VK} {E : XK} (r : RDs K cA B ι H ds vs) (rs : RS K cA B ι S H) (h : PoF K cA B (fnK N.length body ds S) ι H Q E) :
    tS K cA (fun c d _ H' => E c d H') body { nx := fun _ H' => Q .non H', rt := Q } (L2.start N vs) H := .of (rel_start r rs) (by
  unfold fnK at h
  cases q : body (ds.map some ++ List.replicate (N.length - ds.length) none) S with
  | bad => rw [q] at h; exact h
  | brk _ _ => rw [q] at h; exact h.elim
  | cont _ _ => rw [q] at h; exact h.elim
  | nx e' S' => rw [q] at h; exact fun ι' σ' H' f r => h ι' _ H' f r.rs RD.mk_non
  | ret d S' => rw [q] at h; exact h
  | exc c e' S' => rw [q] at h; exact fun ι' σ' H' f r => h ι' H' f r.rs)

/-! ### less is left -/
mutual
theorem RD.cut {k : Nat} : ∀ (d : D) (v : V), low k d = true → RD K cA B ι H d v → RD K cA B (ι.take k) H d v
  | .non, v, _, h => by rw [RD] at h ⊢; exact h
  | .bl b, v, _, h => by rw [RD] at h ⊢; exact h
  | .int i, v, _, h => by rw [RD] at h ⊢; exact h
  | .str x, v, _, h => by rw [RD] at h ⊢; exact h
  | .tup ds, v, l, h => by
    rw [low] at l
    rw [RD] at h ⊢
    obtain ⟨a, xs, e, h1, h2⟩ := h
    refine ⟨a, xs, e, ?_, RDs.cut ds xs l h2⟩
    rcases h1 with ⟨h1, h3⟩ | h1
    · exact .inl ⟨fun m => h1 (List.mem_of_mem_take m), h3⟩
    · exact .inr h1
  | .lst ds, v, l, h => by
    rw [low] at l
    rw [RD] at h ⊢
    obtain ⟨a, xs, e, ⟨h1, h3⟩, h2⟩ := h
    exact ⟨a, xs, e, ⟨fun m => h1 (List.mem_of_mem_take m), h3⟩, RDs.cut ds xs l h2⟩
  | .dct ks ds, v, l, h => by
    rw [low] at l
    rw [RD] at h ⊢
    obtain ⟨a, xs, e, h1, h2, h3, h4, h5⟩ := h
    exact ⟨a, xs, e, fun m => h1 (List.mem_of_mem_take m), h2, h3, h4, RDs.cut ds xs l h5⟩
  | .obj n, v, l, h => by
    rw [low, decide_eq_true_eq] at l
    rw [RD] at h ⊢
    obtain ⟨a, e, h1⟩ := h
    exact ⟨a, e, by rw [List.getElem?_take_of_lt l]; exact h1⟩
  | .scr ds, v, l, h => by
    rw [low] at l
    rw [RD] at h ⊢
    obtain ⟨a, xs, e, h1, h2⟩ := h
    exact ⟨a, xs, e, h1.imp (fun ⟨h1, h3⟩ => ⟨fun m => h1 (List.mem_of_mem_take m), h3⟩) _root_.id, RDs.cut ds xs l h2⟩
  | .exn c, v, l, h => by
    rw [RD] at h ⊢
    obtain ⟨a, e, h1, h2, h3⟩ := h
    exact ⟨a, e, fun m => h1 (List.mem_of_mem_take m), h2, h3⟩
theorem RDs.cut {k : Nat} : ∀ (ds : List D) (vs : List V), lows k ds = true → RDs K cA B ι H ds vs → RDs K cA B (ι.take k) H ds vs
  | [], vs, _, h => by rw [RDs] at h ⊢; exact h
  | d :: ds, vs, l, h => by
    rw [lows, Bool.and_eq_true] at l
    rw [RDs] at h ⊢
    obtain ⟨v, r, e, h1, h2⟩ := h
    exact ⟨v, r, e, RD.cut d v l.1 h1, RDs.cut ds r l.2 h2⟩
end
theorem lows_map {k : Nat} : ∀ {fs : List (Str × D)}, (fs.all fun p => low k p.2) = true → lows k (fs.map (·.2)) = true
  | [], _ => rfl
  | f :: fs, h => by
    rw [List.all_cons, Bool.and_eq_true] at h
    rw [List.map_cons, lows, h.1, lows_map h.2]; rfl
theorem RS.cut {k : Nat} (r : RS K cA B ι S H) (h : (S.take k).all (lowC k) = true) : RS K cA B (ι.take k) (S.take k) H := by
  refine ⟨by rw [List.length_take, List.length_take, r.len], r.nd.sublist (List.take_sublist _ _), fun a b => ?_, fun i c e => ?_⟩
  · obtain ⟨h1, o, h2⟩ := r.nB a b
    exact ⟨fun m => h1 (List.mem_of_mem_take m), o, h2⟩
  · have hl : lowC k c = true := List.all_eq_true.mp h c (List.mem_of_getElem? e)
    have hi : i < k := by
      have := (List.getElem?_eq_some_iff.mp e).1
      rw [List.length_take] at this; omega
    rw [List.getElem?_take_of_lt hi] at e
    obtain ⟨a, h1, h2⟩ := r.at_ i c e
    refine ⟨a, by rw [List.getElem?_take_of_lt hi]; exact h1, ?_⟩
    cases c with
    | lst ds => obtain ⟨xs, h3, h4⟩ := h2; exact ⟨xs, h3, RDs.cut _ _ hl h4⟩
    | dct ks ds => obtain ⟨xs, h3, h4, h5⟩ := h2; exact ⟨xs, h3, h4, RDs.cut _ _ hl h5⟩
    | ins C fs => obtain ⟨dx, xs, h3, h4, h5⟩ := h2; exact ⟨dx, xs, h3, h4, RDs.cut _ _ (lows_map hl) h5⟩
theorem Fr.cut (f : Fr ι ι' H H') : Fr ι (ι'.take ι.length) H H' := by
  obtain ⟨⟨l, rfl, p⟩, s⟩ := f
  rw [List.take_left]
  exact ⟨⟨[], by simp, by simp⟩, s⟩
theorem RD.still {k : Nat} {d : D} {v : V} (rs : RS K cA B ι S H) (h : low k (still k S d) = true) (r : RD K cA B ι H d v) : RD K cA B (ι.take k) H (still k S d) v := by
  cases d with
  | obj n =>
    unfold DL.still at h ⊢
    simp only at h ⊢
    by_cases hn : k ≤ n
    · rw [if_pos hn] at h ⊢
      have out : ∀ {a}, ι[n]? = some a → a ∉ ι.take k := fun {a} h1 m => by
        obtain ⟨i, hi, e⟩ := List.getElem_of_mem m
        rw [List.getElem_take] at e
        rw [List.length_take] at hi
        obtain ⟨hn', e'⟩ := List.getElem?_eq_some_iff.mp h1
        exact (List.pairwise_iff_getElem.mp rs.nd i n (by omega) hn' (by omega)) (e.trans e'.symm)
      have nb : ∀ {a}, ι[n]? = some a → ¬ B a := fun {a} h1 z => (rs.nB a z).1 (List.mem_of_getElem? h1)
      obtain ⟨a, rfl, h1⟩ := r.obj
      cases q : S[n]? with
      | none => rw [q] at h; simp only at h; rw [low, decide_eq_true_eq] at h; omega
      | some c =>
        rw [q] at h
        obtain ⟨a', h2, h3⟩ := rs.at_ n c q
        rw [h1] at h2; cases h2
        cases c with
        | lst ds =>
          obtain ⟨xs, h4, h5⟩ := h3
          simp only at h ⊢
          rw [low] at h
          exact .mk_lst ⟨out h1, nb h1, h4⟩ (RDs.cut _ _ h h5)
        | dct ks ds =>
          obtain ⟨xs, h4, h5, h6⟩ := h3
          simp only at h ⊢
          rw [low] at h
          rw [RD]
          exact ⟨a, xs, rfl, out h1, nb h1, h4, h5, RDs.cut _ _ h h6⟩
        | ins C fs => simp only at h; rw [low, decide_eq_true_eq] at h; omega
    · rw [if_neg hn] at h ⊢
      exact RD.cut _ _ h r
  | _ => exact RD.cut _ _ h r
theorem PoF.drop {N : Nat} {body : MS} {ds : List D} {Q : VK} {E : XK} (hl : S.length = ι.length) (h : PoF K cA B (fnD N body ds S) ι H Q E) : PoF K cA B (fnK N body ds S) ι H Q E := by
  unfold fnD at h
  cases q : fnK N body ds S with
  | bad => rw [q] at h; exact h
  | exc c S' =>
    rw [q] at h
    simp only at h
    split at h
    · rename_i hc
      rw [hl] at hc h
      exact fun ι' H' f r => h (ι'.take ι.length) H' f.cut (r.cut hc)
    · exact h.elim
  | ok d S' =>
    rw [q] at h
    simp only at h
    split at h
    · rename_i hc
      rw [hl] at hc h
      exact fun ι' v H' f r rd => h (ι'.take ι.length) v H' f.cut (r.cut hc.2) (rd.still r hc.1)
    · exact h.elim

/-! ### a call -/
mutual
theorem RD.cl (k : ∀ a, a ∉ ι → ¬ B a → a ∉ ι' ∧ ¬ B' a) : ∀ (d : D) (v : V), DL.cl d = true → RD K cA B ι H d v → RD K cA B' ι' H d v
  | .non, v, _, h => by rw [RD] at h ⊢; exact h
  | .bl b, v, _, h => by rw [RD] at h ⊢; exact h
  | .int i, v, _, h => by rw [RD] at h ⊢; exact h
  | .str x, v, _, h => by rw [RD] at h ⊢; exact h
  | .tup ds, v, l, h => by
    rw [DL.cl] at l
    rw [RD] at h ⊢
    obtain ⟨a, xs, e, h1, h2⟩ := h
    refine ⟨a, xs, e, ?_, RDs.cl k ds xs l h2⟩
    rcases h1 with ⟨h1, h3, h4⟩ | h1
    · exact .inl ⟨(k a h1 h3).1, (k a h1 h3).2, h4⟩
    · exact .inr h1
  | .lst ds, v, l, h => by
    rw [DL.cl] at l
    rw [RD] at h ⊢
    obtain ⟨a, xs, e, ⟨h1, h3, h4⟩, h2⟩ := h
    exact ⟨a, xs, e, ⟨(k a h1 h3).1, (k a h1 h3).2, h4⟩, RDs.cl k ds xs l h2⟩
  | .dct ks ds, v, l, h => by
    rw [DL.cl] at l
    rw [RD] at h ⊢
    obtain ⟨a, xs, e, h1, h2, h3, h4, h5⟩ := h
    exact ⟨a, xs, e, (k a h1 h2).1, (k a h1 h2).2, h3, h4, RDs.cl k ds xs l h5⟩
  | .obj n, v, l, h => by rw [DL.cl] at l; cases l
  | .scr ds, v, l, h => by
    rw [DL.cl] at l
    rw [RD] at h ⊢
    obtain ⟨a, xs, e, h1, h2⟩ := h
    exact ⟨a, xs, e, h1.imp (fun ⟨h1, h3, h4⟩ => ⟨(k a h1 h3).1, (k a h1 h3).2, h4⟩) _root_.id, RDs.cl k ds xs l h2⟩
  | .exn c, v, l, h => by
    rw [RD] at h ⊢
    obtain ⟨a, e, h1, h2, h3⟩ := h
    exact ⟨a, e, (k a h1 h2).1, (k a h1 h2).2, h3⟩
theorem RDs.cl (k : ∀ a, a ∉ ι → ¬ B a → a ∉ ι' ∧ ¬ B' a) : ∀ (ds : List D) (vs : List V), DL.cls ds = true → RDs K cA B ι H ds vs → RDs K cA B' ι' H ds vs
  | [], vs, _, h => by rw [RDs] at h ⊢; exact h
  | d :: ds, vs, l, h => by
    rw [DL.cls, Bool.and_eq_true] at l
    rw [RDs] at h ⊢
    obtain ⟨v, r, e, h1, h2⟩ := h
    exact ⟨v, r, e, RD.cl k d v l.1 h1, RDs.cl k ds r l.2 h2⟩
end
/-- a value with its cell renamed -/
theorem RD.mapO {f : Nat → Nat} {d : D} {v : V} (k : ∀ a, a ∉ ι → ¬ B a → a ∉ ι' ∧ ¬ B' a) (hf : flatO d = true) (ho : ∀ n a, d = .obj n → ι[n]? = some a → ι'[f n]? = some a) (h : RD K cA B ι H d v) : RD K cA B' ι' H (DL.mapO f d) v := by
  cases d with
  | obj n =>
    obtain ⟨a, rfl, h1⟩ := h.obj
    exact .mk_obj (ho n a rfl h1)
  | _ => exact RD.cl k _ _ hf h
theorem RDs.mapO {f : Nat → Nat} (k : ∀ a, a ∉ ι → ¬ B a → a ∉ ι' ∧ ¬ B' a) : ∀ {ds : List D} {vs : List V}, ds.all flatO = true → (∀ n a, D.obj n ∈ ds → ι[n]? = some a → ι'[f n]? = some a) → RDs K cA B ι H ds vs → RDs K cA B' ι' H (ds.map (DL.mapO f)) vs
  | [], vs, _, _, h => by rw [h.nil_inv]; exact .nil
  | d :: ds, vs, hf, ho, h => by
    obtain ⟨v, t, rfl, h1, h2⟩ := h.cons_inv
    rw [List.all_cons, Bool.and_eq_true] at hf
    exact .cons (h1.mapO k hf.1 fun n a e => ho n a (by rw [e]; exact List.mem_cons_self)) (RDs.mapO k hf.2 (fun n a e => ho n a (List.mem_cons_of_mem _ e)) h2)
theorem RO.mapC {f : Nat → Nat} {a : Addr} {c : Cell} (k : ∀ a, a ∉ ι → ¬ B a → a ∉ ι' ∧ ¬ B' a) (hf : okC c = true) (ho : ∀ n a, D.obj n ∈ cds c → ι[n]? = some a → ι'[f n]? = some a) (h : RO K cA B ι H a c) : RO K cA B' ι' H a (DL.mapC f c) := by
  cases c with
  | lst ds => obtain ⟨xs, h1, h2⟩ := h; exact ⟨xs, h1, RDs.mapO k hf ho h2⟩
  | dct ks ds => obtain ⟨xs, h1, h2, h3⟩ := h; exact ⟨xs, h1, h2, RDs.mapO k hf ho h3⟩
  | ins C fs =>
    obtain ⟨dx, xs, h1, h2, h3⟩ := h
    have e1 : (fs.map fun p => (p.1, DL.mapO f p.2)).map (·.1) = fs.map (·.1) := by rw [List.map_map]; rfl
    have e2 : (fs.map fun p => (p.1, DL.mapO f p.2)).map (·.2) = (fs.map (·.2)).map (DL.mapO f) := by rw [List.map_map, List.map_map]; rfl
    refine ⟨dx, xs, by rw [e1]; exact h1, by rw [List.length_map]; exact h2, ?_⟩
    rw [e2]
    exact RDs.mapO k hf ho h3
theorem idx_get {js : List Nat} {n : Nat} (h : n ∈ js) : js[js.idxOf n]? = some n := by
  have hl := List.idxOf_lt_length_of_mem h
  rw [List.getElem?_eq_getElem hl, List.getElem_idxOf]
theorem call_sub {m : MF} {ds : List D} {vs : List V} {Q : VK} {js : List Nat} (rs : RS K cA B ι S H) (r : RDs K cA B ι H ds vs) (h : PoE K cA W B (callJ m ds S js) ι σ H Q) : spM K cA ds.length m vs H Q (WE W σ) := by
  unfold callJ at h
  split at h
  case isFalse => exact h.elim
  rename_i hc
  simp only [Bool.and_eq_true, decide_eq_true_eq, List.all_eq_true] at hc
  obtain ⟨⟨⟨hnd, hfl⟩, hin⟩, hgood⟩ := hc
  have hj : ∀ j ∈ js, ∃ c a, S[j]? = some c ∧ okC c = true ∧ inC js c = true ∧ ι[j]? = some a ∧ RO K cA B ι H a c := fun j m => by
    have g := hgood j m
    unfold goodC at g
    split at g
    · rename_i c q
      rw [Bool.and_eq_true] at g
      obtain ⟨a, h1, h2⟩ := rs.at_ j c q
      exact ⟨c, a, q, g.1, g.2, h1, h2⟩
    · cases g
  let ι2 : List Addr := js.map fun j => ι.getD j 0
  let B2 : Addr → Prop := fun a => B a ∨ (a ∈ ι ∧ a ∉ ι2)
  have sub2 : ∀ a ∈ ι2, a ∈ ι := fun a m => by
    obtain ⟨j, hm, e⟩ := List.mem_map.mp m
    obtain ⟨c, a', _, _, _, h1, _⟩ := hj j hm
    rw [List.getD_eq_getElem?_getD, h1] at e
    simp at e; subst e
    exact List.mem_of_getElem? h1
  have get2 : ∀ {i j : Nat}, js[i]? = some j → ι2[i]? = ι[j]? := fun {i j} e => by
    show (js.map fun j => ι.getD j 0)[i]? = _
    rw [List.getElem?_map, e]
    obtain ⟨c, a', _, _, _, h1, _⟩ := hj j (List.mem_of_getElem? e)
    simp [List.getD_eq_getElem?_getD, h1]
  have kin : ∀ a, a ∉ ι → ¬ B a → a ∉ ι2 ∧ ¬ B2 a := fun a h1 h2 => ⟨fun m => h1 (sub2 a m), fun z => z.elim h2 fun z => h1 z.1⟩
  have oin : ∀ n a, n ∈ js → ι[n]? = some a → ι2[js.idxOf n]? = some a := fun n a m e => by rw [get2 (idx_get m)]; exact e
  have rs2 : RS K cA B2 ι2 (js.map fun j => DL.mapC js.idxOf (S.getD j (.lst []))) H := by
    refine ⟨by simp [ι2], ?_, fun a z => ?_, fun i c e => ?_⟩
    · show List.Pairwise _ _
      rw [List.pairwise_map]
      refine hnd.imp_of_mem fun {x y} hx hy hne => ?_
      obtain ⟨_, a1, _, _, _, h1, _⟩ := hj x hx
      obtain ⟨_, a2, _, _, _, h2, _⟩ := hj y hy
      simp only [List.getD_eq_getElem?_getD, h1, h2, Option.getD_some]
      intro e
      subst e
      obtain ⟨l1, e1⟩ := List.getElem?_eq_some_iff.mp h1
      obtain ⟨l2, e2⟩ := List.getElem?_eq_some_iff.mp h2
      rcases Nat.lt_or_gt_of_ne hne with z | z
      · exact (List.pairwise_iff_getElem.mp rs.nd x y l1 l2 z) (e1.trans e2.symm)
      · exact (List.pairwise_iff_getElem.mp rs.nd y x l2 l1 z) (e2.trans e1.symm)
    · rcases z with z | z
      · obtain ⟨h1, o, h2⟩ := rs.nB a z
        exact ⟨fun m => h1 (sub2 a m), o, h2⟩
      · obtain ⟨o, h2⟩ := rs.there z.1
        exact ⟨z.2, o, h2⟩
    · rw [List.getElem?_map] at e
      cases q : js[i]? with
      | none => rw [q] at e; cases e
      | some j =>
        rw [q] at e
        obtain ⟨c0, a, h0, hok, hic, h1, h2⟩ := hj j (List.mem_of_getElem? q)
        simp only [Option.map_some, List.getD_eq_getElem?_getD, h0, Option.getD_some, Option.some.injEq] at e
        subst e
        refine ⟨a, by rw [get2 q]; exact h1, RO.mapC kin hok (fun n b mm eb => ?_) h2⟩
        have := List.all_eq_true.mp hic _ mm
        exact oin n b (of_decide_eq_true this) eb
  have rd2 : RDs K cA B2 ι2 H (ds.map (DL.mapO js.idxOf)) vs := RDs.mapO kin (List.all_eq_true.mpr hfl) (fun n a m e => oin n a (of_decide_eq_true (hin _ m)) e) r
  -- behind the call
  have fin : ∀ {ι' H' S2}, Fr ι2 ι' H H' → RS K cA B2 ι' S2 H' → S2.all okC = true → ∃ ι1, Fr ι ι1 H H' ∧ RS K cA B ι1 (back js S S2) H' ∧ ∀ d v, flatO d = true → RD K cA B2 ι' H' d v → RD K cA B ι1 H' (DL.mapO (outN js S.length) d) v := fun {ι' H' S2} f rs' hok => by
    obtain ⟨⟨l, rfl, hl⟩, hst⟩ := f
    have l2 : ι2.length = js.length := by simp [ι2]
    have hout : ∀ a, a ∉ ι2 ++ l → ¬ B2 a → a ∉ ι ++ l ∧ ¬ B a := fun a h1 h2 => by
      refine ⟨fun m => ?_, fun z => h2 (.inl z)⟩
      rcases List.mem_append.mp m with m | m
      · exact h2 (.inr ⟨m, fun z => h1 (List.mem_append_left _ z)⟩)
      · exact h1 (List.mem_append_right _ m)
    have oout : ∀ n a, (ι2 ++ l)[n]? = some a → (ι ++ l)[outN js S.length n]? = some a := fun n a e => by
      unfold outN
      by_cases hn : n < js.length
      · rw [if_pos hn]
        rw [List.getElem?_append_left (by rw [l2]; exact hn)] at e
        have q : js[n]? = some js[n] := List.getElem?_eq_getElem hn
        rw [get2 q] at e
        rw [List.getD_eq_getElem?_getD, q, Option.getD_some, List.getElem?_append_left (List.getElem?_eq_some_iff.mp e).1]
        exact e
      · rw [if_neg hn]
        rw [List.getElem?_append_right (by rw [l2]; omega), l2] at e
        rw [List.getElem?_append_right (by rw [rs.len]; omega), rs.len]
        rw [show S.length + (n - js.length) - S.length = n - js.length by omega]
        exact e
    have hl' : ∀ a ∈ l, a ∉ ι ∧ H a = none := fun a m => by
      refine ⟨fun z => ?_, (hl a m).2⟩
      obtain ⟨o, q⟩ := rs.there z
      rw [(hl a m).2] at q; cases q
    have fr : Fr ι (ι ++ l) H H' := ⟨⟨l, rfl, hl'⟩, fun a o e n => hst a o e fun m => n (sub2 a m)⟩
    refine ⟨ι ++ l, fr, ⟨?_, ?_, fun a z => ?_, fun i c e => ?_⟩, fun d v hf rd => rd.mapO hout hf fun n a _ e => oout n a e⟩
    · have := rs'.len
      rw [List.length_append, l2] at this
      unfold back
      rw [List.length_append, List.length_append, List.length_mapIdx, List.length_map, List.length_drop, rs.len]
      omega
    · rw [List.nodup_append]
      have := rs'.nd
      rw [List.nodup_append] at this
      exact ⟨rs.nd, this.2.1, fun a ha b hb e => (hl' b hb).1 (e ▸ ha)⟩
    · obtain ⟨h1, o, h2⟩ := rs.nB a z
      refine ⟨fun m => ?_, o, hst a o h2 fun m => h1 (sub2 a m)⟩
      rcases List.mem_append.mp m with m | m
      · exact h1 m
      · rw [(hl a m).2] at h2; cases h2
    · unfold back at e
      by_cases hi : i < S.length
      · rw [List.getElem?_append_left (by rw [List.length_mapIdx]; exact hi), List.getElem?_mapIdx, List.getElem?_eq_getElem hi, Option.map_some] at e
        by_cases hm : i ∈ js
        · rw [if_pos hm] at e
          have hix := List.idxOf_lt_length_of_mem hm
          have hlen : js.idxOf i < S2.length := by
            have := rs'.len
            rw [List.length_append, l2] at this
            omega
          rw [List.getD_eq_getElem?_getD, List.getElem?_eq_getElem hlen, Option.getD_some] at e
          cases e
          obtain ⟨a, h1, h2⟩ := rs'.at_ (js.idxOf i) _ (List.getElem?_eq_getElem hlen)
          have ok2 : okC S2[js.idxOf i] = true := List.all_eq_true.mp hok _ (List.getElem_mem hlen)
          refine ⟨a, ?_, RO.mapC hout ok2 (fun n b _ eb => oout n b eb) h2⟩
          rw [List.getElem?_append_left (by rw [l2]; exact hix), get2 (idx_get hm)] at h1
          rw [List.getElem?_append_left (List.getElem?_eq_some_iff.mp h1).1]
          exact h1
        · rw [if_neg hm] at e
          cases e
          obtain ⟨a, h1, h2⟩ := rs.at_ i _ (List.getElem?_eq_getElem hi)
          obtain ⟨o, ho⟩ := h2.has
          refine ⟨a, fr.get h1, h2.fr fr ?_⟩
          rw [ho]
          refine hst a o ho fun m => ?_
          obtain ⟨j, hm', e⟩ := List.mem_map.mp m
          obtain ⟨_, a2, _, _, _, h3, _⟩ := hj j hm'
          rw [List.getD_eq_getElem?_getD, h3, Option.getD_some] at e
          subst e
          obtain ⟨l1, e1⟩ := List.getElem?_eq_some_iff.mp h1
          obtain ⟨l2, e2⟩ := List.getElem?_eq_some_iff.mp h3
          have hne : i ≠ j := fun z => hm (z ▸ hm')
          rcases Nat.lt_or_gt_of_ne hne with z | z
          · exact (List.pairwise_iff_getElem.mp rs.nd i j l1 l2 z) (e1.trans e2.symm)
          · exact (List.pairwise_iff_getElem.mp rs.nd j i l2 l1 z) (e2.trans e1.symm)
      · rw [List.getElem?_append_right (by rw [List.length_mapIdx]; omega), List.length_mapIdx, List.getElem?_map, List.getElem?_drop] at e
        cases q : S2[js.length + (i - S.length)]? with
        | none => rw [q] at e; cases e
        | some c0 =>
          rw [q] at e; cases e
          obtain ⟨a, h1, h2⟩ := rs'.at_ _ _ q
          refine ⟨a, ?_, RO.mapC hout (List.all_eq_true.mp hok _ (List.mem_of_getElem? q)) (fun n b _ eb => oout n b eb) h2⟩
          rw [List.getElem?_append_right (by rw [l2]; omega), l2] at h1
          rw [List.getElem?_append_right (by rw [rs.len]; omega), rs.len]
          rw [show js.length + (i - S.length) - js.length = i - S.length by omega] at h1
          exact h1
  refine ⟨B2, ι2, _, _, List.length_map .., rd2, rs2, ?_⟩
  cases q : m (ds.map (DL.mapO js.idxOf)) (js.map fun j => DL.mapC js.idxOf (S.getD j (.lst []))) with
  | bad => rw [q] at h; exact h.elim
  | exc c S2 =>
    rw [q] at h
    simp only at h
    intro ι' H' f rs'
    split at h
    · rename_i hok
      obtain ⟨ι1, f1, r1, _⟩ := fin f rs' hok
      exact h ι1 H' f1 r1
    · exact h.elim
  | ok d S2 =>
    rw [q] at h
    simp only at h
    intro ι' v H' f rs' rd
    split at h
    · rename_i hok
      rw [Bool.and_eq_true] at hok
      obtain ⟨ι1, f1, r1, k1⟩ := fin f rs' hok.2
      exact h ι1 v H' f1 r1 (k1 d v hok.1 rd)
    · exact h.elim
end
end DL

/-! The data layer: more rules. -/
namespace DL
open PySem PySem.Spec PyProof.Rows L2
section
variable {X : Cx} {K : PySem.W.Frag} {cA : Str → Addr} {W : WX} {B B' : Addr → Prop} {ι ι' : List Addr} {S : Sto} {H H' : Hp} {σ : L2.St} {e : En}
variable {a b c : Expr} {es : List Expr} {ma mb mc : ME} {xs : MA} {pos : Pos} {st : Stmt} {sts : List Stmt} {sa sb : MS} {g g' : Sto → D → D → Option D}
/-! ### a < b < c -/
def e3 (g g' : Sto → D → D → Option D) (a b c : ME) : ME := fun e S => (a e S).bind fun x S1 => (b e S1).bind fun y S2 => match g S2 x y with
  | some (.bl true) => (c e S2).bind fun z S3 => opt (g' S3 y z) S3
  | some (.bl false) => .ok (.bl false) S2
  | _ => .bad
theorem useC {f f' : Value → Value → Sem Value} {r r' : R2} (h2 : ∀ (cA : Str → Addr) (B : Addr → Prop) (ι : List Addr) (S : Sto) (H : Hp) (x y : V) (a b d : D) (Q : VK), RS X.K cA B ι S H → RD X.K cA B ι H a x → RD X.K cA B ι H b y → g S a b = some d →
    (∀ v H', Same H H' → RD X.K cA B ι H' d v → Q v H') → r x y H Q) (h2' : ∀ (cA : Str → Addr) (B : Addr → Prop) (ι : List Addr) (S : Sto) (H : Hp) (x y : V) (a b d : D) (Q : VK), RS X.K cA B ι S H → RD X.K cA B ι H a x → RD X.K cA B ι H b y → g' S a b = some d →
    (∀ v H', Same H H' → RD X.K cA B ι H' d v → Q v H') → r' x y H Q) : ∀ σ H Q, tE X.K cA W (e3 g g' ma mb mc) σ H Q → tChain r r' (tE X.K cA W ma) (tE X.K cA W mb) (tE X.K cA W mc) σ H Q := fun σ H Q ⟨B, ι, e, S, re, p⟩ =>
    .of re (po_bind re p fun ι1 v1 H1 d1 S1 f1 r1 rd1 p1 => .of r1 (po_bind r1 p1 fun ι2 v2 H2 d2 S2 f2 r2 rd2 p2 => by
      split at p2
      · rename_i q
        refine h2 cA B ι2 S2 H2 v1 v2 d1 d2 _ _ r2.rs (RD.fr f2 _ _ rd1) rd2 q fun v H3 sm rd => ⟨true, rd.bl, ?_⟩
        rw [if_pos rfl]
        have r3 : Rel X.K cA B ι2 e S2 σ H3 := r2.fr (Fr.same sm) (r2.rs.same sm)
        refine .of r3 (po_bind (Q := Q) r3 (f := fun z S3 => opt (g' S3 d2 z) S3) ?_ fun ι4 v4 H4 d4 S4 f4 r4 rd4 p4 => ?_)
        · revert p2
          cases (mc e S2).bind fun z S3 => opt (g' S3 d2 z) S3 with
          | bad => exact _root_.id
          | ok d2 S2 => exact fun h ι2 v2 H2 f2 r2 d2 => h ι2 v2 H2 ((Fr.same sm).trans f2) r2 d2
          | exc c S2 => exact fun h ι2 H2 f2 r2 => h ι2 H2 ((Fr.same sm).trans f2) r2
        · obtain ⟨d, hd, q'⟩ := po_opt p4 r4.rs
          exact h2' cA B ι4 S4 H4 v2 v4 d2 d4 d _ r4.rs (RD.fr f4 _ _ (RD.fr (Fr.same sm) _ _ rd2)) rd4 hd q'
      · rename_i q
        refine h2 cA B ι2 S2 H2 v1 v2 d1 d2 _ _ r2.rs (RD.fr f2 _ _ rd1) rd2 q fun v H3 sm rd => ⟨false, rd.bl, ?_⟩
        rw [if_neg Bool.false_ne_true]
        exact p2 ι2 _ H3 (Fr.same sm) (r2.rs.same sm) RD.mk_bl
      · exact p2.elim))

theorem q_chain {op op' : CmpOp} (ho : O2 X (compareOp op) g) (ho' : O2 X (compareOp op') g') (ha : PE X a (tE X.K cA W ma)) (hb : PE X b (tE X.K cA W mb)) (hc : PE X c (tE X.K cA W mc)) (hm : lastMarks [op, op'] [b, c] = false := by with_unfolding_all rfl) :
    PE X (.Compare a [op, op'] [b, c] pos) (tE X.K cA W (e3 g g' ma mb mc)) :=
  let ⟨r, h1, h2⟩ := ho.ex; let ⟨r', h1', h2'⟩ := ho'.ex; PEi (pe_chain h1 h1' ha hb hc hm) (useC (f := compareOp op) (f' := compareOp op') h2 h2')
theorem k_chain {op op' : CmpOp} (ho : O2 X (compareOp op) g) (ho' : O2 X (compareOp op') g') (ha : PE X a (tE X.K cA W ma)) (hb : PE X b (tE X.K cA W mb)) (hc : PE X c (tE X.K cA W mc)) (hm : lastMarks [op, op'] [b, c] = false := by with_unfolding_all rfl) :
    PT X (.Compare a [op, op'] [b, c] pos) (tT X.K cA W (tOf (e3 g g' ma mb mc))) :=
  let ⟨r, h1, h2⟩ := ho.ex; let ⟨r', h1', h2'⟩ := ho'.ex; PTi (pt_chain h1 h1' ha hb hc hm) (useT (useC (f := compareOp op) (f' := compareOp op') h2 h2'))

/-! ### a cell changes -/
theorem Fr.at {a : Addr} {o : HO} (h : a ∈ ι) : Fr ι ι H (upd H a o) := ⟨⟨[], by simp, by simp⟩, fun b o' e n => by rw [upd_ne (fun z : b = a => n (by rw [z]; exact h))]; exact e⟩
theorem RS.setL (r : RS K cA B ι S H) {n : Nat} {ds ds' : List D} {a : Addr} {xs' : List V} (h : S[n]? = some (.lst ds)) (ha : ι[n]? = some a) (rd : RDs K cA B ι H ds' xs') : RS K cA B ι (S.set n (.lst ds')) (upd H a (.lst xs')) := by
  have hm : a ∈ ι := List.mem_of_getElem? ha
  have fr : Fr ι ι H (upd H a (.lst xs')) := Fr.at hm
  refine ⟨by rw [List.length_set]; exact r.len, r.nd, fun b z => ?_, fun i c e => ?_⟩
  · obtain ⟨h1, o, h2⟩ := r.nB b z
    exact ⟨h1, o, fr.st _ _ h2 h1⟩
  · by_cases hi : n = i
    · subst hi
      rw [List.getElem?_set_self (List.getElem?_eq_some_iff.mp h).1] at e
      cases e
      exact ⟨a, ha, xs', upd_same, RDs.fr fr _ _ rd⟩
    · rw [List.getElem?_set_ne hi] at e
      obtain ⟨b, h1, h2⟩ := r.at_ i c e
      refine ⟨b, h1, h2.fr fr (upd_ne fun z => ?_)⟩
      subst z
      obtain ⟨l1, e1⟩ := List.getElem?_eq_some_iff.mp h1
      obtain ⟨l2, e2⟩ := List.getElem?_eq_some_iff.mp ha
      rcases Nat.lt_or_gt_of_ne hi with z | z
      · exact (List.pairwise_iff_getElem.mp r.nd n i l2 l1 z) (e2.trans e1.symm)
      · exact (List.pairwise_iff_getElem.mp r.nd i n l1 l2 z) (e1.trans e2.symm)
def putI (S : Sto) (e : En) : D → D → D → RS'
  | .obj n, .int k, d => match S[n]? with
    | some (.lst ds) => match ixN ds.length k with
      | some j => .nx e (S.set n (.lst (ds.set j d)))
      | none => .bad
    | _ => .bad
  | _, _, _ => .bad
/-- o[i] = v of a list -/
def sSetI (mo mi mv : ME) : MS := fun e S => (mv e S).bindS e fun d S1 => (mo e S1).bindS e fun o S2 => (mi e S2).bindS e fun i S3 => putI S3 e o i d
theorem s_setI {o i v : Expr} {mo mi mv : ME} (h : ∀ {tv to ti : TE}, PE X v tv → PE X o to → PE X i ti → PS X st (tAsg tv (L2.gSub to ti rSetL))) (hv : PE X v (tE X.K cA W mv)) (ho : PE X o (tE X.K cA W mo)) (hi : PE X i (tE X.K cA W mi)) : PS X st (tS X.K cA W (sSetI mo mi mv)) :=
  PSi (h hv ho hi) fun D' σ H ⟨B, ι, e, S, re, p⟩ =>
    .of re (po_bindS re p fun ι1 v1 H1 d1 S1 f1 r1 rd1 p1 => .of r1 (po_bindS r1 p1 fun ι2 v2 H2 d2 S2 f2 r2 rd2 p2 => .of r2 (po_bindS r2 p2 fun ι3 v3 H3 d3 S3 f3 r3 rd3 p3 => by
      unfold putI at p3
      split at p3
      · rename_i n k
        split at p3
        · rename_i ds q
          split at p3
          · rename_i j hj
            obtain ⟨a, h1, us, h2, h3⟩ := r3.rs.at_ n _ q
            obtain ⟨a', rfl, h4⟩ := (RD.fr f3 _ _ rd2).obj
            rw [h1] at h4; cases h4
            refine ⟨a, us, k, j, rfl, rd3.int, h2, by rw [← h3.len]; exact hj, ?_⟩
            have rdd := RD.fr f3 _ _ (RD.fr f2 _ _ rd1)
            have fr : Fr ι3 ι3 H3 (upd H3 a (.lst (us.set j v1))) := Fr.at (List.mem_of_getElem? h1)
            exact p3 ι3 σ _ fr (r3.fr fr (r3.rs.setL q h1 (h3.set j rdd)))
          · exact p3.elim
        · exact p3.elim
      · exact p3.elim)))
def appI (S : Sto) : D → D → RE
  | .obj n, d => match S[n]? with
    | some (.lst ds) => if ds.length < 16777216 then .ok .non (S.set n (.lst (ds ++ [d]))) else .bad
    | _ => .bad
  | _, _ => .bad
def isL (S : Sto) : D → Bool
  | .obj n => match S[n]? with | some (.lst _) => true | _ => false
  | _ => false
/-- o.append(v) -/
def eApp (mo mv : ME) : ME := fun e S => (mo e S).bind fun o S1 => if isL S1 o = true then (mv e S1).bind fun d S2 => appI S2 o d else .bad
theorem q_app {o v : Expr} {mo mv : ME} {apos : Pos} (ho : PE X o (tE X.K cA W mo)) (hv : PE X v (tE X.K cA W mv))
    (h : ∀ {to : TE} {t : TA}, PE X o to → PA X [v] t → PE X (.Call (.Attribute o "append" apos) [v] [] pos) (tBM X.K "list" rAppend to t)) (hst : starEach [v] X.env = [(false, eval v X.env)] := by rfl) : PE X (.Call (.Attribute o "append" apos) [v] [] pos) (tE X.K cA W (eApp mo mv)) :=
  PEi (h ho (pa_cons hv pa_nil hst)) fun σ H Q ⟨B, ι, e, S, re, p⟩ =>
    .of re (po_bind re p fun ι1 v1 H1 d1 S1 f1 r1 rd1 p1 => by
      split at p1
      · rename_i hl
        unfold isL at hl
        split at hl
        · rename_i n
          split at hl
          · rename_i ds0 q0
            obtain ⟨a, h1, us0, h20, h30⟩ := r1.rs.at_ n _ q0
            obtain ⟨a', rfl, h4⟩ := rd1.obj
            rw [h1] at h4; cases h4
            refine ⟨.inl ⟨rfl, _, SqL.of h20⟩, .of r1 (po_bind r1 p1 fun ι2 v2 H2 d2 S2 f2 r2 rd2 p2 => ?_)⟩
            unfold appI at p2
            simp only at p2
            split at p2
            · rename_i ds q
              split at p2
              · rename_i hz
                obtain ⟨a2, h5, us, h6, h7⟩ := r2.rs.at_ n _ q
                rw [f2.get h1] at h5; cases h5
                refine ⟨a, us, v2, rfl, rfl, h6, by rw [sizeL, ← h7.len]; exact hz, ?_⟩
                have fr : Fr ι2 ι2 H2 (upd H2 a (.lst (us ++ [v2]))) := Fr.at (List.mem_of_getElem? (f2.get h1))
                exact p2 ι2 _ _ fr (r2.rs.setL q (f2.get h1) (h7.append (.cons rd2 .nil))) RD.mk_non
              · exact p2.elim
            · exact p2.elim
          · cases hl
        · cases hl
      · exact p1.elim)
/-- x op= e -/
def sAug (i : Nat) (g : Sto → D → D → Option D) (m : ME) : MS := fun e S => match e[i]? with
  | some (some x) => (m e S).bindS e fun y S1 => match g S1 x y with | some d => .nx (e.set i (some d)) S1 | none => .bad
  | _ => .bad
theorem s_aug {op : Operator} {i : Nat} {m : ME} (ho : O2 X (inplaceOp op) g) (h : ∀ {te : TE} {ti : TIp}, PE X a te → PIp X op ti → PS X st (tAug i te ti)) (ha : PE X a (tE X.K cA W m)) : PS X st (tS X.K cA W (sAug i g m)) := by
  obtain ⟨r, h1, h2⟩ := ho.ex
  have hp : PIp X op r := fun pins s σ H x y v u Q I rx ry q => h1 pins s σ H x y v u Q I rx ry q
  refine PSi (h ha hp) fun D' σ H ⟨B, ι, e, S, re, p⟩ => ?_
  unfold sAug at p
  split at p
  · rename_i x q
    obtain ⟨v, e1, rx⟩ := re.ev i x q
    refine ⟨v, e1, .of re (po_bindS re p fun ι1 v1 H1 d1 S1 f1 r1 rd1 p1 => ?_)⟩
    cases hg : g S1 x d1 with
    | none => rw [hg] at p1; exact p1.elim
    | some d =>
      rw [hg] at p1
      refine h2 cA B ι1 S1 H1 v v1 x d1 d _ r1.rs (RD.fr f1 _ _ rx) rd1 hg fun z H2 sm rd => p1 ι1 _ H2 (Fr.same sm) ?_
      exact (r1.fr (Fr.same sm) (r1.rs.same sm)).set rd
  · exact p.elim
def gIAdd (S : Sto) (a b : D) : Option D := match a, b with
  | .int i, .int j => some (.int (i + j))
  | .str x, .str y => if x.length + y.length ≤ 16777216 then some (.str (x ++ y)) else none
  | _, _ => none
theorem o_iadd : O2 X (inplaceOp .Add) gIAdd := o_mk (iop_add.or iop_add_str) fun cA B ι S H x y a b d Q rs ra rb hg q => by
  unfold gIAdd at hg
  split at hg
  · cases hg
    exact .inl ⟨_, _, ra.int, rb.int, q _ H same_refl RD.mk_int⟩
  · split at hg
    · rename_i hz
      cases hg
      exact .inr ⟨_, _, ra.str, rb.str, by rw [sizeL]; exact hz, q _ H same_refl RD.mk_str⟩
    · cases hg
  · cases hg
theorem o_isub : O2 X (inplaceOp .Sub) gSub := o_mk iop_sub fun cA B ι S H x y a b d Q rs ra rb hg q => by
  unfold gSub at hg
  split at hg
  · cases hg
    exact ⟨_, _, ra.int, rb.int, q _ H same_refl RD.mk_int⟩
  · cases hg
def gNeg (S : Sto) (a : D) : Option D := match a with
  | .int i => some (.int (-i))
  | _ => none
theorem q_neg (ha : PE X a (tE X.K cA W ma)) : PE X (.UnaryOp .USub a pos) (tE X.K cA W (e1 gNeg ma)) := PEi (pe_un un_neg ha) fun σ H Q ⟨B, ι, e, S, re, p⟩ =>
  .of re (po_bind re p fun ι1 v1 H1 d1 S1 f1 r1 rd1 p1 => by
    obtain ⟨d, hd, q⟩ := po_opt p1 r1.rs
    unfold gNeg at hd
    split at hd
    · cases hd
      exact ⟨_, rd1.int, q _ H1 same_refl RD.mk_int⟩
    · cases hd)

/-! ### functions by their names -/
structure FD (P : Program) (w : World) (K : PySem.W.Frag) (mg : Str → Option Value) (base : Heap) (cA : Str → Addr) (k : Nat) (x : Str) (n : Nat) (m : MF) : Prop where
  ex : ∃ (f : Addr) (fd : FuncData) (ps : List Str), FnOk P w K mg base (L2.CX P w) k f fd ps (spM K cA n m) ∧ mg x = some (.ref f) ∧ PySem.W.keepIn K (.ref f) = true ∧ Binds K fd ps []
def eCall' (n : Nat) (m : MF) (am : MA) : ME := fun e S => (am e S).bind fun ds S1 => if ds.length = n then callS m ds S1 else .bad
theorem q_call {x : Str} {k j n : Nat} {m : MF} {p : Pos} (tk : Takes X W) (F : FD X.prog X.w X.K X.mg X.base cA k x n m) (hr : Room j X.A) (hk : k ≤ j) (hg : Gl X x) (ha : PA X (a :: es) (tA X.K cA W xs))
    (hdb : (x == ("__debug__" : Str)) = false := by decide) (he : starEach (a :: es) X.env = (false, eval a X.env) :: starEach es X.env := by rfl) (hpl : (backTo pos (starEach es X.env)).any (·.1) = false := by rfl) :
    PE X (.Call (.Name x p) (a :: es) [] pos) (tE X.K cA W (eCall' n m xs)) := by
  obtain ⟨f, fd, ps, h1, h2, h3, h4⟩ := F.ex
  refine PEi (pe_callS (E := WE W) h1 (hr.mono hk) hg h2 h3 h4 (fun σ => passAt tk σ) ha hdb he hpl) fun σ H Q ⟨B, ι, e, S, re, p⟩ =>
    .of re (poA_bind re p fun ι1 vs H1 ds S1 f1 r1 rd1 p1 => ?_)
  split at p1
  · rename_i hn
    subst hn
    exact call_sub r1.rs rd1 p1
  · exact p1.elim
variable {P : Program} {w : World} {mg : Str → Option Value} {base : Heap}
theorem spM_len {n : Nat} {m : MF} {vs : List V} {Q : VK} {E : XK} (h : spM K cA n m vs H Q E) : vs.length = n := by
  obtain ⟨B, ι, ds, S, h1, h2, _⟩ := h
  rw [← h2.len, h1]
theorem fd_mk {x : Str} {sd : Stmt} {f : Addr} {fd : FuncData} {N ps : List Str} {k : Nat} {body : MS} (F : Fun K x x sd f fd) (mgf : mg x = some (.ref f)) (kp : PySem.W.keepIn K (.ref f) = true) (b : Binds K fd ps []) (sc : FnScope N ps (defScope sd))
    (hb : ∀ (cdv : Value) (A : Around) (outer : List Env) (s : Shared) (H : Hp) (E : XK), Room k (A.deeper (envOfC x (defScope sd) s.heap.objs.size f cdv)) →
      PSs (cxOf (L2.CX P w) P w K mg base N x (defScope sd) f cdv A outer s H E) (defBody sd) (tS K cA (fun c d _ H' => E c d H') body)) : FD P w K mg base cA (k + 1) x ps.length (fnK N.length body) :=
  ⟨f, fd, ps, F.okX sc (fun vs H Q E h => spM_len h) (fun cdv A outer s H vs Q E hr h => ⟨_, hb cdv A outer s H E hr, by
    obtain ⟨B, ι, ds, S, h1, h2, h3, h4⟩ := h
    exact body_ok h2 h3 h4⟩), mgf, kp, b⟩
theorem FD.imp {k n : Nat} {x : Str} {m m' : MF} (F : FD P w K mg base cA k x n m) (h : ∀ B ι ds S H Q E, RS K cA B ι S H → PoF K cA B (m' ds S) ι H Q E → PoF K cA B (m ds S) ι H Q E) : FD P w K mg base cA k x n m' := by
  obtain ⟨f, fd, ps, h1, h2⟩ := F.ex
  exact ⟨f, fd, ps, h1.imp fun vs H Q E ⟨B, ι, ds, S, h3, h4, h5, h6⟩ => ⟨B, ι, ds, S, h3, h4, h5, h _ _ _ _ _ _ _ h5 h6⟩, h2⟩
theorem FD.drop {k n N : Nat} {x : Str} {body : MS} (F : FD P w K mg base cA k x n (fnK N body)) : FD P w K mg base cA k x n (fnD N body) := F.imp fun _ _ _ _ _ _ _ r h => h.drop r.len.symm
theorem FD.mono {k j n : Nat} {x : Str} {m : MF} (F : FD P w K mg base cA k x n m) (h : k ≤ j) : FD P w K mg base cA j x n m := by
  obtain ⟨f, fd, ps, h1, h2⟩ := F.ex
  exact ⟨f, fd, ps, h1.mono h, h2⟩
theorem FD.eq {k n : Nat} {x : Str} {m m' : MF} (F : FD P w K mg base cA k x n m) (h : ∀ ds S, m' ds S = m ds S) : FD P w K mg base cA k x n m' := F.imp fun _ _ ds S _ _ _ _ z => by rw [← h ds S]; exact z

/-- the law: a list of at most 63 numbers, True comes out -/
def spLaw (K : PySem.W.Frag) (n : Nat) : Sp := fun vs H Q _ => ∃ (a : Addr) (ns : List Int), vs = [.ref a] ∧ SqL K H a (ns.map V.int) ∧ ns.length ≤ n ∧ ∀ H', Q (.bl true) H'
theorem RDs.int : ∀ (ns : List Int), RDs K cA B ι H (ns.map D.int) (ns.map V.int)
  | [] => .nil
  | _ :: r => .cons RD.mk_int (RDs.int r)
theorem law_mk {n : Nat} {sd : Stmt} {f : Addr} {fd : FuncData} {N : List Str} {k : Nat} {body : MS} (F : Fun K "law" "law" sd f fd) (sc : FnScope N ["script"] (defScope sd))
    (hb : ∀ (cdv : Value) (A : Around) (outer : List Env) (s : Shared) (H : Hp) (E : XK), Room k (A.deeper (envOfC "law" (defScope sd) s.heap.objs.size f cdv)) →
      PSs (cxOf CX0 P w K mg base N "law" (defScope sd) f cdv A outer s H E).nox (defBody sd) (tS K cA WF body)) (hm : ∀ ns : List Int, ns.length ≤ n → ∃ S, fnK N.length body [.scr (ns.map D.int)] [] = .ok (.bl true) S) : FnOk P w K mg base CX0 (k + 1) f fd ["script"] (spLaw K n) := by
  refine F.ok sc (fun vs H Q E h => ?_) (fun cdv A outer s H vs Q E hr h => ⟨_, hb cdv A outer s H E hr, ?_⟩)
  · obtain ⟨a, ns, rfl, _⟩ := h
    rfl
  · obtain ⟨a, ns, rfl, hS, hl, q⟩ := h
    obtain ⟨S, e⟩ := hm ns hl
    have rs : RS K cA (fun _ => False) [] [] H := ⟨rfl, .nil, fun _ z => z.elim, fun i c z => by simp at z⟩
    have rd : RD K cA (fun _ => False) [] H (.scr (ns.map D.int)) (.ref a) := by
      rw [RD]
      exact ⟨a, ns.map V.int, rfl, hS.imp (fun z => ⟨by simp, fun z => z, z⟩) _root_.id, RDs.int ns⟩
    have r := rel_start (N := N) (.cons rd .nil) rs
    refine .of r ?_
    unfold fnK at e
    cases q2 : body ([D.scr (ns.map D.int)].map some ++ List.replicate (N.length - [D.scr (ns.map D.int)].length) none) [] with
    | bad => rw [q2] at e; cases e
    | brk _ _ => rw [q2] at e; cases e
    | cont _ _ => rw [q2] at e; cases e
    | exc _ _ _ => rw [q2] at e; cases e
    | nx _ _ => rw [q2] at e; cases e
    | ret d S' =>
      rw [q2] at e
      cases e
      exact fun ι' v H' fr r rd => by rw [rd.bl]; exact q H'
end
end DL

/-! The data layer: cells that a turn of a loop has made are forgotten. -/
namespace DL
open PySem PySem.Spec PyProof.Rows L2
def lowE (k : Nat) (e : En) : Bool := e.all fun o => match o with | some d => low k d | none => true
def gcS (kill : List Nat) (k : Nat) : RS' → RS'
  | .nx e S => if (lowE k (wipeE e kill) && (S.take k).all (lowC k)) = true then .nx (wipeE e kill) (S.take k) else .bad
  | .cont e S => if (lowE k (wipeE e kill) && (S.take k).all (lowC k)) = true then .cont (wipeE e kill) (S.take k) else .bad
  | r => r
def sGC (kill : List Nat) (body : MS) : MS := fun e S => gcS kill S.length (body e S)
section
variable {X : Cx} {K : PySem.W.Frag} {cA : Str → Addr} {W : WX} {B : Addr → Prop} {ι ι' : List Addr} {S : Sto} {H H' : Hp} {σ : L2.St} {e : En} {sts : List Stmt} {body : MS} {kill : List Nat}
theorem wipeE_get {i : Nat} {d : D} : ∀ {kill : List Nat}, (wipeE e kill)[i]? = some (some d) → e[i]? = some (some d)
  | [], h => h
  | v :: vs, h => by
    unfold wipeE at h
    by_cases hj : v = i
    · subst hj
      by_cases hi : v < (wipeE e vs).length
      · rw [List.getElem?_set_self hi] at h; cases h
      · rw [List.getElem?_eq_none (by rw [List.length_set]; omega)] at h; cases h
    · rw [List.getElem?_set_ne hj] at h
      exact wipeE_get h
theorem wipeE_len : ∀ kill : List Nat, (wipeE e kill).length = e.length
  | [] => rfl
  | v :: vs => by unfold wipeE; rw [List.length_set, wipeE_len vs]
theorem Rel.gc {k : Nat} (r : Rel K cA B ι e S σ H) (h1 : lowE k (wipeE e kill) = true) (h2 : (S.take k).all (lowC k) = true) : Rel K cA B (ι.take k) (wipeE e kill) (S.take k) σ H :=
  ⟨r.rs.cut h2, by rw [wipeE_len]; exact r.len, fun i d h => by
    obtain ⟨v, h3, h4⟩ := r.ev i d (wipeE_get h)
    have := List.all_eq_true.mp h1 _ (List.mem_of_getElem? h)
    exact ⟨v, h3, RD.cut _ _ this h4⟩⟩
theorem z_gc (h : PSs X sts (tS X.K cA W body)) : PSs X sts (tS X.K cA W (sGC kill body)) := PSsi h fun D' σ H ⟨B, ι, e, S, re, p⟩ => .of re (by
  unfold sGC at p
  cases q : body e S with
  | nx e' S' =>
    rw [q] at p
    simp only [gcS] at p
    split at p
    · rename_i hc
      rw [Bool.and_eq_true, ← re.rs.len] at hc
      rw [← re.rs.len] at p
      exact fun ι' σ' H' f r => p _ σ' H' f.cut (r.gc hc.1 hc.2)
    · exact p.elim
  | cont e' S' =>
    rw [q] at p
    simp only [gcS] at p
    split at p
    · rename_i hc
      rw [Bool.and_eq_true, ← re.rs.len] at hc
      rw [← re.rs.len] at p
      exact fun ι' σ' H' f r => p _ σ' H' f.cut (r.gc hc.1 hc.2)
    · exact p.elim
  | bad => rw [q] at p; exact p
  | ret d S' => rw [q] at p; exact p
  | brk e' S' => rw [q] at p; exact p
  | exc c e' S' => rw [q] at p; exact p)
end
end DL

/-! The data layer: how what a def does is reckoned. -/
namespace DL
open PySem PySem.Spec PyProof.Rows L2
section
variable {d : D} {ds : List D} {S : Sto} {c : Str} {b : Bool} {e : En} {i n : Nat}
@[simp] theorem RE.bind_ok {f : D → Sto → RE} : (RE.ok d S).bind f = f d S := rfl
@[simp] theorem RE.bind_exc {f : D → Sto → RE} : (RE.exc c S).bind f = .exc c S := rfl
@[simp] theorem RE.bindA_ok {f : D → Sto → RA} : (RE.ok d S).bindA f = f d S := rfl
@[simp] theorem RE.bindA_exc {f : D → Sto → RA} : (RE.exc c S).bindA f = .exc c S := rfl
@[simp] theorem RE.bindB_ok {f : D → Sto → RB} : (RE.ok d S).bindB f = f d S := rfl
@[simp] theorem RE.bindB_exc {f : D → Sto → RB} : (RE.exc c S).bindB f = .exc c S := rfl
@[simp] theorem RE.bindS_ok {f : D → Sto → RS'} : (RE.ok d S).bindS e f = f d S := rfl
@[simp] theorem RE.bindS_exc {f : D → Sto → RS'} : (RE.exc c S).bindS e f = .exc c e S := rfl
@[simp] theorem RA.bind_ok {f : List D → Sto → RE} : (RA.ok ds S).bind f = f ds S := rfl
@[simp] theorem RA.bind_exc {f : List D → Sto → RE} : (RA.exc c S).bind f = .exc c S := rfl
@[simp] theorem RA.bindA_ok {f : List D → Sto → RA} : (RA.ok ds S).bindA f = f ds S := rfl
@[simp] theorem RA.bindA_exc {f : List D → Sto → RA} : (RA.exc c S).bindA f = .exc c S := rfl
@[simp] theorem RB.bind_ok {f : Bool → Sto → RE} : (RB.ok b S).bind f = f b S := rfl
@[simp] theorem RB.bind_exc {f : Bool → Sto → RE} : (RB.exc c S).bind f = .exc c S := rfl
@[simp] theorem RB.bindB_ok {f : Bool → Sto → RB} : (RB.ok b S).bindB f = f b S := rfl
@[simp] theorem RB.bindB_exc {f : Bool → Sto → RB} : (RB.exc c S).bindB f = .exc c S := rfl
@[simp] theorem RB.bindS_ok {f : Bool → Sto → RS'} : (RB.ok b S).bindS e f = f b S := rfl
@[simp] theorem RB.bindS_exc {f : Bool → Sto → RS'} : (RB.exc c S).bindS e f = .exc c e S := rfl
@[simp] theorem RS'.bind_nx {f : En → Sto → RS'} : (RS'.nx e S).bind f = f e S := rfl
@[simp] theorem RS'.bind_ret {f : En → Sto → RS'} : (RS'.ret d S).bind f = .ret d S := rfl
@[simp] theorem RS'.bind_exc {f : En → Sto → RS'} : (RS'.exc c e S).bind f = .exc c e S := rfl
@[simp] theorem RS'.bind_brk {f : En → Sto → RS'} : (RS'.brk e S).bind f = .brk e S := rfl
@[simp] theorem RS'.bind_cont {f : En → Sto → RS'} : (RS'.cont e S).bind f = .cont e S := rfl
@[simp] theorem opt_some : opt (some d) S = .ok d S := rfl
@[simp] theorem view_int {i : Int} : view S (.int i) = .int i := rfl
@[simp] theorem view_str {i : Str} : view S (.str i) = .str i := rfl
@[simp] theorem view_bl {i : Bool} : view S (.bl i) = .bl i := rfl
@[simp] theorem view_non : view S .non = .non := rfl
@[simp] theorem view_tup : view S (.tup ds) = .tup ds := rfl
@[simp] theorem view_lst : view S (.lst ds) = .lst ds := rfl
@[simp] theorem view_scr : view S (.scr ds) = .lst ds := rfl
@[simp] theorem view_dct {ks : List Key} : view S (.dct ks ds) = .dct ks ds := rfl

variable {a b' c' : ME} {g g' : Sto → D → D → Option D} {h : Sto → D → Option D} {gl : Sto → List D → Option D} {ma mr : MA} {t u : MB} {sa sb : MS} {m : MF} {tg : MTg} {x y : D}
@[simp] theorem eV_ap : eV i e S = match e[i]? with | some (some d) => .ok d S | _ => .bad := rfl
@[simp] theorem eC_ap : eC d e S = .ok d S := rfl
@[simp] theorem e2_ap : e2 g a b' e S = (a e S).bind fun x S1 => (b' e S1).bind fun y S2 => opt (g S2 x y) S2 := rfl
@[simp] theorem e1_ap : e1 h a e S = (a e S).bind fun x S1 => opt (h S1 x) S1 := rfl
@[simp] theorem e3_ap : e3 g g' a b' c' e S = (a e S).bind fun x S1 => (b' e S1).bind fun y S2 => match g S2 x y with
  | some (.bl true) => (c' e S2).bind fun z S3 => opt (g' S3 y z) S3
  | some (.bl false) => .ok (.bl false) S2
  | _ => .bad := rfl
@[simp] theorem tOf_ap : tOf a e S = (a e S).bindB fun x S1 => match x with | .bl b => .ok b S1 | _ => .bad := rfl
@[simp] theorem tNo_ap : tNo t e S = (t e S).bindB fun b S1 => .ok (!b) S1 := rfl
@[simp] theorem tAn_ap : tAn t u e S = (t e S).bindB fun x S1 => if x = true then u e S1 else .ok false S1 := rfl
@[simp] theorem tO_ap : tO t u e S = (t e S).bindB fun x S1 => if x = true then .ok true S1 else u e S1 := rfl
@[simp] theorem tYs_ap : tYs e S = .ok true S := rfl
@[simp] theorem eIf_ap : eIf t a b' e S = (t e S).bind fun x S1 => if x = true then a e S1 else b' e S1 := rfl
@[simp] theorem eNo_ap : eNo a e S = (a e S).bind fun x S1 => match x with | .bl b => .ok (.bl (!b)) S1 | _ => .bad := rfl
@[simp] theorem eAn_ap : eAn a b' e S = (a e S).bind fun x S1 => match x with | .bl true => b' e S1 | .bl false => .ok (.bl false) S1 | _ => .bad := rfl
@[simp] theorem eO_ap : eO a b' e S = (a e S).bind fun x S1 => match x with | .bl false => b' e S1 | .bl true => .ok (.bl true) S1 | _ => .bad := rfl
@[simp] theorem aN_ap : aN e S = .ok [] S := rfl
@[simp] theorem aC_ap : aC a mr e S = (a e S).bindA fun x S1 => (mr e S1).bindA fun xs S2 => .ok (x :: xs) S2 := rfl
@[simp] theorem eTup_ap : eTup ma e S = (ma e S).bind fun xs S1 => if xs.length ≤ 16777216 then .ok (.tup xs) S1 else .bad := rfl
@[simp] theorem eLst_ap : eLst ma e S = (ma e S).bind fun xs S1 => if xs.length ≤ 16777216 then .ok (.lst xs) S1 else .bad := rfl
@[simp] theorem eNew_ap : eNew ma e S = (ma e S).bind fun xs S1 => if xs.length ≤ 16777216 then .ok (.obj S1.length) (S1 ++ [.lst xs]) else .bad := rfl
@[simp] theorem eB_ap : eB gl ma e S = (ma e S).bind fun xs S1 => opt (gl S1 xs) S1 := rfl
@[simp] theorem eSl2_ap : eSl2 a b' c' e S = (a e S).bind fun x S1 => (b' e S1).bind fun i S2 => if isPart i = true then (c' e S2).bind fun j S3 => if isPart j = true then opt (gSl (part i) (part j) S3 x) S3 else .bad else .bad := rfl
@[simp] theorem eSlL_ap : eSlL a b' e S = (a e S).bind fun x S1 => (b' e S1).bind fun i S2 => if isPart i = true then opt (gSl (part i) none S2 x) S2 else .bad := rfl
@[simp] theorem eSlH_ap : eSlH a b' e S = (a e S).bind fun x S1 => (b' e S1).bind fun j S2 => if isPart j = true then opt (gSl none (part j) S2 x) S2 else .bad := rfl
@[simp] theorem isPart_int {i : Int} : isPart (.int i) = true := rfl
@[simp] theorem part_int' {i : Int} : part (.int i) = some i := rfl
@[simp] theorem sPass_ap : sPass e S = .nx e S := rfl
@[simp] theorem sSeq_ap : sSeq sa sb e S = (sa e S).bind sb := rfl
@[simp] theorem sSet_ap : sSet i a e S = (a e S).bindS e fun d S1 => .nx (e.set i (some d)) S1 := rfl
@[simp] theorem sEx_ap : sEx a e S = (a e S).bindS e fun _ S1 => .nx e S1 := rfl
@[simp] theorem sRet_ap : sRet a e S = (a e S).bindS e fun d S1 => .ret d S1 := rfl
@[simp] theorem sRetN_ap : sRetN e S = .ret .non S := rfl
@[simp] theorem sIf_ap : sIf t sa sb e S = (t e S).bindS e fun x S1 => if x = true then sa e S1 else sb e S1 := rfl
@[simp] theorem sBrk_ap : sBrk e S = .brk e S := rfl
@[simp] theorem sCont_ap : sCont e S = .cont e S := rfl
@[simp] theorem sAsg_ap : sAsg tg a e S = (a e S).bindS e fun d S1 => match tg d e with | some e' => .nx e' S1 | none => .bad := rfl
@[simp] theorem sSetI_ap : sSetI a b' c' e S = (c' e S).bindS e fun d S1 => (a e S1).bindS e fun o S2 => (b' e S2).bindS e fun i S3 => putI S3 e o i d := rfl
@[simp] theorem eApp_ap : eApp a b' e S = (a e S).bind fun o S1 => if isL S1 o = true then (b' e S1).bind fun d S2 => appI S2 o d else .bad := rfl
@[simp] theorem sAug_ap : sAug i g a e S = match e[i]? with
  | some (some x) => (a e S).bindS e fun y S1 => match g S1 x y with | some d => .nx (e.set i (some d)) S1 | none => .bad
  | _ => .bad := rfl
@[simp] theorem eCall_ap {k : Nat} : eCall' k m ma e S = (ma e S).bind fun ds S1 => if ds.length = k then callS m ds S1 else .bad := rfl
@[simp] theorem mNm_ap : mNm i d e = some (e.set i (some d)) := rfl
@[simp] theorem fnK_ap {k : Nat} : fnK k sa ds S = match sa (ds.map some ++ List.replicate (k - ds.length) none) S with
  | .nx _ S' => .ok .non S'
  | .ret d S' => .ok d S'
  | .exc c _ S' => .exc c S'
  | _ => .bad := rfl
theorem fnD_ap {k : Nat} : fnD k sa ds S = match fnK k sa ds S with
  | .ok d S' => if low S.length (still S.length S' d) = true ∧ (S'.take S.length).all (lowC S.length) = true then .ok (still S.length S' d) (S'.take S.length) else .bad
  | .exc c S' => if (S'.take S.length).all (lowC S.length) = true then .exc c (S'.take S.length) else .bad
  | .bad => .bad := rfl
@[simp] theorem gIx_lst {i : Int} : gIx S (.lst ds) (.int i) = atI ds i := rfl
@[simp] theorem gIx_tup {i : Int} : gIx S (.tup ds) (.int i) = atI ds i := rfl
@[simp] theorem atI0 {α : Type} {z : α} {zs : List α} : atI (z :: zs) 0 = some z := atI_nat (j := 0) rfl
@[simp] theorem atI1 {α : Type} {z z' : α} {zs : List α} : atI (z :: z' :: zs) 1 = some z' := atI_nat (j := 1) rfl
@[simp] theorem atI2 {α : Type} {z z' z2 : α} {zs : List α} : atI (z :: z' :: z2 :: zs) 2 = some z2 := atI_nat (j := 2) rfl
@[simp] theorem gAdd_int {i j : Int} : gAdd S (.int i) (.int j) = some (.int (i + j)) := rfl
@[simp] theorem gSub_int {i j : Int} : gSub S (.int i) (.int j) = some (.int (i - j)) := rfl
theorem gAdd_str {i j : Str} (h : i.length + j.length ≤ 16777216) : gAdd S (.str i) (.str j) = some (.str (i ++ j)) := by simp [gAdd, h]
theorem gMul_int {i j : Int} (h : (-18446744073709551616 < i ∧ i < 18446744073709551616) ∨ (-18446744073709551616 < j ∧ j < 18446744073709551616)) : gMul S (.int i) (.int j) = some (.int (i * j)) := by simp only [gMul, view_int]; rw [if_pos (by simpa using h)]
theorem gMod_int {i j : Int} (h : 0 < j) : gMod S (.int i) (.int j) = some (.int (i % j)) := by simp [gMod, h]
theorem gFdiv_int {i j : Int} (h : 0 < j) (h2 : j < 1073741824) : gFdiv S (.int i) (.int j) = some (.int (i / j)) := by simp [gFdiv, h, h2]
@[simp] theorem gI_int {p : Int → Int → Bool} {i j : Int} : gI p S (.int i) (.int j) = some (.bl (p i j)) := rfl
@[simp] theorem iGt_ap {i j : Int} : iGt i j = decide (j < i) := rfl
@[simp] theorem iGe_ap {i j : Int} : iGe i j = decide (j ≤ i) := rfl
@[simp] theorem gLt_int {i j : Int} : gLt S (.int i) (.int j) = some (.bl (decide (i < j))) := rfl
@[simp] theorem gLe_int {i j : Int} : gLe S (.int i) (.int j) = some (.bl (decide (i ≤ j))) := rfl
@[simp] theorem deq_int {i j : Int} : deq (.int i) (.int j) = some (decide (i = j)) := by simp [deq, fla, scal]
@[simp] theorem deq_bl {i j : Bool} : deq (.bl i) (.bl j) = some (decide (i = j)) := by simp [deq, fla, scal]
@[simp] theorem deq_str {i j : Str} : deq (.str i) (.str j) = some (decide (i = j)) := by simp [deq, fla, scal]
@[simp] theorem gEq_int {i j : Int} : gEq S (.int i) (.int j) = some (.bl (decide (i = j))) := by simp [gEq]
@[simp] theorem gNe_int {i j : Int} : gNe S (.int i) (.int j) = some (.bl (!decide (i = j))) := by simp [gNe]
@[simp] theorem gEq_bl {i j : Bool} : gEq S (.bl i) (.bl j) = some (.bl (decide (i = j))) := by simp [gEq]
@[simp] theorem gNe_bl {i j : Bool} : gNe S (.bl i) (.bl j) = some (.bl (!decide (i = j))) := by simp [gNe]
@[simp] theorem gEq_str {i j : Str} : gEq S (.str i) (.str j) = some (.bl (decide (i = j))) := by simp [gEq]
@[simp] theorem gNe_str {i j : Str} : gNe S (.str i) (.str j) = some (.bl (!decide (i = j))) := by simp [gNe]
@[simp] theorem low_int {i : Int} {k : Nat} : low k (.int i) = true := rfl
@[simp] theorem low_str {i : Str} {k : Nat} : low k (.str i) = true := rfl
@[simp] theorem low_bl {i : Bool} {k : Nat} : low k (.bl i) = true := rfl
@[simp] theorem low_non {k : Nat} : low k .non = true := rfl
@[simp] theorem low_obj {i k : Nat} : low k (.obj i) = decide (i < k) := rfl
@[simp] theorem low_tup {k : Nat} : low k (.tup ds) = lows k ds := rfl
@[simp] theorem low_lst {k : Nat} : low k (.lst ds) = lows k ds := rfl
@[simp] theorem low_scr {k : Nat} : low k (.scr ds) = lows k ds := rfl
@[simp] theorem lows_nil {k : Nat} : lows k [] = true := rfl
@[simp] theorem lows_cons {k : Nat} : lows k (d :: ds) = (low k d && lows k ds) := rfl
@[simp] theorem cl_int {i : Int} : cl (.int i) = true := rfl
@[simp] theorem cl_str {i : Str} : cl (.str i) = true := rfl
@[simp] theorem cl_bl {i : Bool} : cl (.bl i) = true := rfl
@[simp] theorem cl_non : cl .non = true := rfl
@[simp] theorem cl_tup : cl (.tup ds) = cls ds := rfl
@[simp] theorem cl_lst : cl (.lst ds) = cls ds := rfl
@[simp] theorem cl_scr : cl (.scr ds) = cls ds := rfl
@[simp] theorem cl_obj : cl (.obj n) = false := rfl
@[simp] theorem cls_nil : cls [] = true := rfl
@[simp] theorem cls_cons : cls (d :: ds) = (cl d && cls ds) := rfl
@[simp] theorem still_int {i : Int} {k : Nat} : still k S (.int i) = .int i := rfl
@[simp] theorem still_str {i : Str} {k : Nat} : still k S (.str i) = .str i := rfl
@[simp] theorem still_bl {i : Bool} {k : Nat} : still k S (.bl i) = .bl i := rfl
@[simp] theorem still_non {k : Nat} : still k S .non = .non := rfl
@[simp] theorem still_tup {k : Nat} : still k S (.tup ds) = .tup ds := rfl
@[simp] theorem still_lst {k : Nat} : still k S (.lst ds) = .lst ds := rfl
@[simp] theorem lowC_lst {k : Nat} : lowC k (.lst ds) = lows k ds := rfl

theorem forD_inv {C : Sto → Prop} {tg : MTg} {body : MS} (P : Nat → En → Sto → Prop) : ∀ (ds : List D) (k : Nat) (e : En) (S : Sto), (∀ i d e S, ds[i]? = some d → P (k + i) e S → C S ∧ ∃ e1, tg d e = some e1 ∧ ∃ e2 S2, (body e1 S = .nx e2 S2 ∨ body e1 S = .cont e2 S2) ∧ P (k + i + 1) e2 S2) →
    (∀ e S, P (k + ds.length) e S → C S) → P k e S → ∃ e' S', forD C tg body ds e S = .nx e' S' ∧ P (k + ds.length) e' S'
  | [], k, e, S, _, hd, p => by
    unfold forD
    rw [if_pos (hd e S p)]
    exact ⟨e, S, rfl, p⟩
  | d :: ds, k, e, S, h, hd, p => by
    obtain ⟨hC, e1, h1, e2, S2, h2, p2⟩ := h 0 d e S rfl p
    unfold forD
    rw [if_pos hC, h1]
    have ih := forD_inv P ds (k + 1) e2 S2 (fun i d' e' S' hi p' => by
      have := h (i + 1) d' e' S' (by simpa using hi) (by rw [show k + (i + 1) = k + 1 + i by omega]; exact p')
      rw [show k + (i + 1) + 1 = k + 1 + i + 1 by omega] at this
      exact this) (fun e' S' p' => hd e' S' (by rw [show k + (d :: ds).length = k + 1 + ds.length by simp; omega]; exact p')) p2
    rw [show k + (d :: ds).length = k + 1 + ds.length by simp; omega]
    simp only
    rcases h2 with h2 | h2
    · rw [h2]; exact ih
    · rw [h2]; exact ih
theorem lcD_map {C : Sto → Prop} {tg : MTg} {el : ME} {e0 : En} {f : D → D} (hC : C S) : ∀ (ds acc : List D), (∀ d ∈ ds, ∃ e1, tg d e0 = some e1 ∧ el e1 S = .ok (f d) S) → acc.length + ds.length ≤ 16777216 → lcD C tg tYs el e0 ds acc S = .ok (.lst (acc ++ ds.map f)) S
  | [], acc, _, _ => by
    unfold lcD
    rw [if_pos hC]; simp
  | d :: ds, acc, h, hl => by
    obtain ⟨e1, h1, h2⟩ := h d List.mem_cons_self
    rw [List.length_cons] at hl
    unfold lcD
    rw [if_pos hC, h1]
    simp only [tYs_ap, h2]
    rw [if_pos (by omega), lcD_map hC ds (acc ++ [f d]) (fun d' hd => h d' (List.mem_cons_of_mem _ hd)) (by rw [List.length_append]; simp; omega)]
    simp
theorem sin_one {k : Nat} {y : Str} : sin ⟨#[k]⟩ y = decide (k ∈ y.cps.toList) := rfl
@[simp] theorem bls_map {α : Type} {f : α → Bool} : ∀ l : List α, bls (l.map fun z => D.bl (f z)) = some (l.map f)
  | [] => rfl
  | z :: l => by rw [List.map_cons, bls, bls_map l]; rfl
@[simp] theorem gLb_lst {f : List Bool → Bool} : gLb f S [.lst ds] = (bls ds).map fun bs => .bl (f bs) := rfl
@[simp] theorem gLen_tup : gLen S [.tup ds] = some (.int ds.length) := rfl
@[simp] theorem gLen_lst : gLen S [.lst ds] = some (.int ds.length) := rfl
@[simp] theorem gLen_scr : gLen S [.scr ds] = some (.int ds.length) := rfl
theorem gLen_str {z : Str} (h : z.length ≤ 16777216) : gLen S [.str z] = some (.int z.length) := by simp [gLen, h]
theorem gIx_str {z : Str} {i : Int} (h : z.length ≤ 16777216) : gIx S (.str z) (.int i) = (atI z.cps.toList i).map fun c => .str ⟨#[c]⟩ := by simp [gIx, h]
@[simp] theorem gIn_str {y z : Str} : gIn S (.str y) (.str z) = some (.bl (sin y z)) := rfl
@[simp] theorem gNin_str {y z : Str} : gNin S (.str y) (.str z) = some (.bl (!sin y z)) := rfl
@[simp] theorem items_str {z : Str} : items S (.str z) = some (signs z) := rfl
@[simp] theorem items_lst : items S (.lst ds) = some ds := rfl
@[simp] theorem items_tup : items S (.tup ds) = some ds := rfl
@[simp] theorem items_scr : items S (.scr ds) = some ds := rfl
theorem eLc_ap {it el : ME} {own : List Nat} : eLc it tg t el own e S = (it e S).bind fun d S1 => match items S1 d with
  | some ds => lcD (fun S' => view S' d = view S1 d) tg t el (wipeE e own) ds [] S1
  | none => .bad := rfl
theorem sFor_ap {it : ME} : sFor it tg sa e S = (it e S).bindS e fun d S1 => match items S1 d with
  | some ds => forD (fun S' => view S' d = view S1 d) tg sa ds e S1
  | none => .bad := rfl
theorem sForR_ap {it : ME} : sForR it tg sa e S = (it e S).bindS e fun d S1 => match d with
  | .int n => if -(2 ^ 62) ≤ n ∧ n < 2 ^ 62 then forD (fun _ => True) tg sa (rng 0 n.toNat) e S1 else .bad
  | _ => .bad := rfl
theorem sGC_ap {kill : List Nat} : sGC kill sa e S = gcS kill S.length (sa e S) := rfl
/-- a call without cells -/
theorem call_none {m : MF} (h : ds.all cl = true) : callS m ds S = match m ds [] with | .ok d S2 => if (flatO d && S2.all okC) = true then .ok (mapO (outN [] S.length) d) (back [] S S2) else .bad | .exc c S2 => if S2.all okC = true then .exc c (back [] S S2) else .bad | .bad => .bad := by
  have h1 : tops ds = [] := by
    unfold tops
    rw [List.filterMap_eq_nil_iff]
    intro d hd
    have := List.all_eq_true.mp h d hd
    cases d <;> first | rfl | cases this
  have h2 : ds.all flatO = true := List.all_eq_true.mpr fun d hd => by
    have := List.all_eq_true.mp h d hd
    cases d <;> first | exact this | cases this
  have h3 : ds.all (inj1 []) = true := List.all_eq_true.mpr fun d hd => by
    have := List.all_eq_true.mp h d hd
    cases d <;> first | rfl | cases this
  have h4 : ds.map (mapO ([] : List Nat).idxOf) = ds := by
    conv => rhs; rw [← List.map_id ds]
    refine List.map_congr_left fun d hd => ?_
    have := List.all_eq_true.mp h d hd
    cases d <;> first | rfl | cases this
  unfold callS callJ
  rw [h1]
  simp only [clo, h2, h3, h4, List.all_nil, List.map_nil, List.nodup_nil, decide_true, Bool.and_self, if_true]
  first | done | rfl
@[simp] theorem back_nil : back [] S [] = S := by
  unfold back
  simp
  exact List.ext_getElem? fun i => by simp

theorem eLc_of {it el : ME} {own : List Nat} {S1 : Sto} {f : D → D} (h : it e S = .ok d S1) (hi : items S1 d = some ds) (hf : ∀ z ∈ ds, ∃ e1, tg z (wipeE e own) = some e1 ∧ el e1 S1 = .ok (f z) S1) (hl : ds.length ≤ 16777216) : eLc it tg tYs el own e S = .ok (.lst (ds.map f)) S1 := by
  rw [eLc_ap, h, RE.bind_ok, hi]
  simp only
  rw [lcD_map (C := fun S' => view S' d = view S1 d) rfl ds [] hf (by simpa using hl)]
  simp
theorem eLc_signs {it el : ME} {own : List Nat} {S1 : Sto} {t : Str} {f : Nat → D} (h : it e S = .ok (.str t) S1) (hf : ∀ k ∈ t.cps.toList, el ((wipeE e own).set i (some (.str ⟨#[k]⟩))) S1 = .ok (f k) S1) (hl : t.length ≤ 16777216) : eLc it (mNm i) tYs el own e S = .ok (.lst (t.cps.toList.map f)) S1 := by
  rw [eLc_of (f := fun z => match z with | .str x => f (x.cps.getD 0 0) | z => z) h (items_str) (fun z hz => ?_) (by simpa [signs, Str.length] using hl)]
  · simp [signs, Function.comp_def]
  · simp only [signs, List.mem_map] at hz
    obtain ⟨k, hk, rfl⟩ := hz
    exact ⟨_, rfl, by simpa using hf k hk⟩
theorem gIx_sign {t : Str} {k : Nat} {r : List Nat} (h : t.length ≤ 16777216) (e : t.cps.toList = k :: r) : gIx S (.str t) (.int 0) = some (.str ⟨#[k]⟩) := by
  rw [gIx_str h, e, atI0]; rfl
theorem str_len (t : Str) : t.length = t.cps.toList.length := by simp [Str.length]
@[simp] theorem app_len (x y : Str) : (x ++ y).length = x.length + y.length := by
  show (x.cps ++ y.cps).size = _
  rw [Array.size_append]; rfl
@[simp] theorem sign_len (k : Nat) : (Str.mk #[k]).length = 1 := rfl
@[simp] theorem rng_len (lo : Int) (n : Nat) : (rng lo n).length = n := by simp [rng]
theorem gSl_str {lo hi : Option Int} {z : Str} (h : z.length ≤ 16777216) : gSl lo hi S (.str z) = some (.str (cutS z lo hi)) := by simp [gSl, h]
@[simp] theorem lows_ints {k : Nat} : ∀ ns : List Int, lows k (ns.map D.int) = true
  | [] => rfl
  | _ :: r => by rw [List.map_cons, lows_cons, lows_ints r]; rfl
@[simp] theorem cls_ints : ∀ ns : List Int, cls (ns.map D.int) = true
  | [] => rfl
  | _ :: r => by rw [List.map_cons, cls_cons, cls_ints r]; rfl
@[simp] theorem lowE_nil {k : Nat} : lowE k [] = true := rfl
@[simp] theorem lowE_some {k : Nat} : lowE k (some d :: e) = (low k d && lowE k e) := rfl
@[simp] theorem lowE_none {k : Nat} : lowE k (none :: e) = lowE k e := by simp [lowE]
theorem gMul_str {z : Str} {k : Int} (h : k < 2147483648 ∧ -2147483648 < k ∧ k.toNat * z.length ≤ 16777216) : gMul S (.str z) (.int k) = some (.str (srep z k.toNat)) := by
  simp only [gMul, view_str, view_int]
  rw [if_pos (by simpa using h)]
end
end DL

/-! max(numbers, default=d) -/
namespace DL
open PySem PySem.Spec PyProof.Rows L2
section
variable {prog : Program} {w : World} {A : Around} {R : Result → Shared → Prop} {I S : Addr} {fp wr : List Addr} {n : Nat} {P : Nat → Value → Prop} {St : Nat → Heap → Prop} {bt : Nat → Nat → Bool} {nm : Str} {d : Value}
/-- what has been seen so far: nothing, or the best of the first ones -/
def Seen (P : Nat → Value → Prop) (bt : Nat → Nat → Bool) (j : Nat) (vals : Array Value) : Prop := (j = 0 ∧ vals = #[]) ∨ ∃ i vb, j = i + 1 ∧ vals = #[vb, vb] ∧ P (argBest bt i) vb
theorem loop_name : (toString "max" ++ toString ".loop" : String) = "max.loop" := by decide
theorem mx_turns (wk : Walks prog w A.in1 I fp wr n P St) (cmp : CmpOf prog w A.in1 .Gt P bt) (out : S ∉ fp) (m : Nat) : ∀ (j : Nat) (s : Shared) (vals : Array Value) (c : Nat), n = j + m → St j s.heap → Seen P bt j vals →
    s.heap.get? S = some { cls := .type "list", dict := none, data := .seq vals c, slots := #[] } →
    (∀ v h' tk, (n = 0 → v = d) → (0 < n → P (argBest bt (n - 1)) v) → (∀ b o, b ∉ wr → b ≠ S → s.heap.get? b = some o → h'.get? b = some o) → R (.ok (.ret v)) { s with heap := h', toks := tk }) →
    codeAny (model prog w) A (.builtin "max.loop" ⟨[.ref I, .none, .ref S], [(nm, d)]⟩) R s := by
  have nw : S ∉ wr := fun h => out (wk.sub _ h)
  induction m with
  | zero =>
    intro j s vals c hm st seen cell fin
    have hj : n = j := hm
    subst hj
    refine codeAny_builtin F.entry_max_loop ?_
    rw [Around.under_plainId F.plain_max_loop _]
    show wpAny _ A.in1 (seqItems? (.ref S) >>= _) _ _ s
    refine wpAny_bind (wpAny_seqItems cell rfl ?_)
    show wpAny _ A.in1 (tryCatch (pyNext (.ref I)) _ >>= _) _ _ s
    refine wpAny_bind (wpAny_tryCatch (wk.done s _ _ st fun h1 tk1 k1 => ?_))
    have cell1 := k1 S _ nw cell
    rcases seen with ⟨h0, rfl⟩ | ⟨i, vb, h0, rfl, best⟩
    · subst h0
      show wpAny _ A.in1 (rule _ >>= _) _ _ _
      refine wpAny_bind (wpAny_rule ?_)
      exact wpAny_pure (fin d h1 tk1 (fun _ => rfl) (fun z => absurd z (Nat.lt_irrefl _)) fun b o q _ e => k1 b o q e)
    · subst h0
      show wpAny _ A.in1 (updateSeq S (fun _ => #[]) >>= _) _ _ _
      refine wpAny_bind ?_
      refine wpAny_updateSeq cell1 rfl (wpAny_bind (wpAny_letGo (wpAny_pure ?_)))
      exact fin vb _ tk1 (fun z => absurd z (Nat.succ_ne_zero _)) (fun _ => best) fun b o q ne e => (Heap.get?_update_other _ _ (Ne.symm ne)).trans (k1 b o q e)
  | succ m ih =>
    intro j s vals c hm st seen cell fin
    have hj : j < n := by omega
    refine codeAny_builtin F.entry_max_loop ?_
    rw [Around.under_plainId F.plain_max_loop _]
    show wpAny _ A.in1 (seqItems? (.ref S) >>= _) _ _ s
    refine wpAny_bind (wpAny_seqItems cell rfl ?_)
    show wpAny _ A.in1 (tryCatch (pyNext (.ref I)) _ >>= _) _ _ s
    refine wpAny_bind (wpAny_tryCatch (wk.item j s _ _ hj st fun v h1 tk1 pv st1 k1 => ?_))
    have cell1 := k1 S _ nw cell
    rcases seen with ⟨h0, rfl⟩ | ⟨i, vb, h0, rfl, best⟩
    · subst h0
      show wpAny _ A.in1 (updateSeq S (fun _ => #[v, v]) >>= _) _ _ _
      refine wpAny_bind ?_
      refine wpAny_updateSeq cell1 rfl ?_
      rw [loop_name]
      refine wpAny_pure ⟨plainId_quiet F.plain_max_loop _, ih 1 _ #[v, v] _ (by omega) (wk.frame _ _ _ st1 fun b hb o e => ?_) (.inr ⟨0, v, rfl, rfl, pv⟩) (Heap.get?_update_self _ cell1 rfl) fun v2 h2 tk2 q0 q1 k2 => ?_⟩
      · exact (Heap.get?_update_other _ _ (fun z : S = b => out (z ▸ hb))).trans e
      · exact fin v2 h2 tk2 q0 q1 fun b o q ne e => k2 b o q ne ((Heap.get?_update_other _ _ (Ne.symm ne)).trans (k1 b o q e))
    · subst h0
      show wpAny _ A.in1 (tryCatch (holding [v, v] (richCompare .Gt v vb >>= _)) _ >>= _) _ _ _
      refine wpAny_bind (wpAny_tryCatch (wpAny_holding (wpAny_bind (cmp (i + 1) (argBest bt i) v vb _ _ _ pv best ?_))))
      refine wpAny_bind (wpAny_holding (wpAny_truthy_bool ?_))
      refine wpAny_bind (wpAny_letGo (wpAny_pure ?_))
      cases hb : bt (i + 1) (argBest bt i) with
      | true =>
        simp only [if_true]
        refine wpAny_bind ?_
        refine wpAny_updateSeq cell1 rfl (wpAny_bind (wpAny_letGo ?_))
        rw [loop_name]
        refine wpAny_pure ⟨plainId_quiet F.plain_max_loop _, ih (i + 2) _ #[v, v] _ (by omega) (wk.frame _ _ _ st1 fun b hb o e => ?_) (.inr ⟨i + 1, v, rfl, rfl, by rw [argBest, if_pos hb]; exact pv⟩) (Heap.get?_update_self _ cell1 rfl) fun v2 h2 tk2 q0 q1 k2 => ?_⟩
        · exact (Heap.get?_update_other _ _ (fun z : S = b => out (z ▸ hb))).trans e
        · exact fin v2 h2 tk2 q0 q1 fun b o q ne e => k2 b o q ne ((Heap.get?_update_other _ _ (Ne.symm ne)).trans (k1 b o q e))
      | false =>
        simp only [Bool.false_eq_true, if_false]
        refine wpAny_bind (wpAny_letGo ?_)
        rw [loop_name]
        refine wpAny_pure ⟨plainId_quiet F.plain_max_loop _, ih (i + 2) _ #[vb, vb] c (by omega) st1 (.inr ⟨i + 1, vb, rfl, rfl, by rw [argBest, if_neg (by rw [hb]; decide)]; exact best⟩) cell1 fun v2 h2 tk2 q0 q1 k2 => ?_⟩
        exact fin v2 h2 tk2 q0 q1 fun b o q ne e => k2 b o q ne (k1 b o q e)
end
theorem mx_args (a v : Value) : argsOk "max" ⟨[a], [(Str.ofString "default", v)]⟩ := by unfold argsOk; kernel_rfl
/-- the greatest, or d -/
def maxD (d : Int) : List Int → Int
  | [] => d
  | x :: r => r.foldl max x
theorem maxD_of {d m : Int} {ns : List Int} (hm : m ∈ ns) (h : ∀ y ∈ ns, y ≤ m) : maxD d ns = m := by
  cases ns with
  | nil => cases hm
  | cons x r =>
    have key : ∀ (r : List Int) (x : Int), (m ∈ x :: r) → (∀ y ∈ x :: r, y ≤ m) → r.foldl max x = m := by
      intro r
      induction r with
      | nil => intro x hx _; rw [List.mem_singleton.mp hx]; rfl
      | cons y r ih =>
        intro x hx hy
        rw [List.foldl_cons]
        refine ih (max x y) ?_ ?_
        · have a := hy x (by simp)
          have b := hy y (by simp)
          simp only [List.mem_cons] at hx ⊢
          rcases hx with rfl | rfl | hx
          · left; omega
          · left; omega
          · exact .inr hx
        · intro z hz
          have a := hy x (by simp)
          have b := hy y (by simp)
          simp only [List.mem_cons] at hz
          rcases hz with rfl | hz
          · omega
          · exact hy z (by simp [hz])
    exact key r x hm h
def rMaxDef (K : PySem.W.Frag) : List V → List V → Hp → VK → Prop := fun vs zs H Q => ∃ (a : Addr) (ns : List Int) (d : Int), vs = [.ref a] ∧ zs = [.int d] ∧ SqL K H a (ns.map V.int) ∧ Q (.int (maxD d ns)) H
theorem cr_maxDef {X : Cx} (hc : X.calm = true) : CallRK X (.builtin "max") [Str.ofString "default"] (rMaxDef X.K) := by
  intro pins s σ H vs zs us ws Q I rv rz h
  obtain ⟨a, ns, d, rfl, rfl, hs, q⟩ := h
  obtain ⟨its, ri, hl, _⟩ := I.list hs
  have hi := ri.ints
  obtain rfl := Vals.ref1 rv
  have hw : ∃ t, ws = [Value.int d t] := by
    cases rz with
    | cons r t =>
      cases t
      obtain ⟨t, rfl⟩ := r
      exact ⟨t, rfl⟩
  obtain ⟨td, rfl⟩ := hw
  obtain ⟨xs, e⟩ := hi.allInts.items
  have hn : numsOf (intItems xs).toList = ns := by rw [← e]; exact hi.numsOf
  rw [nums_intItems] at hn
  subst hn
  have hl2 := hl.isList
  rw [e] at hl2
  show wpAny (model X.prog X.w) X.A (call (.builtin "max") [.ref a] [(Str.ofString "default", Value.int d td)]) (EP X pins σ Q) X.xe s
  refine kmk_tree F.kind_max F.plain_max F.entry_max (mx_args _ _) ?_
  refine wpAny_bind (wpAny_of_eq (show Builtin.Builtins.bindParams "max" ["key", "default"] 0 ⟨[], [(Str.ofString "default", Value.int d td)]⟩ = pure [none, some (.int d td)] from rfl) ?_)
  refine wpAny_bind (wpAny_pure ?_)
  refine wpAny_bind (iter_intList hl2 fun s2 e2 st2 fp2 ne2 => ?_)
  subst e2
  have wk := Walks.list (prog := X.prog) (w := X.w) (A := X.A.in1) (I.ok.hd hc) _ a ne2 (intItems xs)
  refine wpAny_bind (wpAny_newObj_type ?_)
  rw [loop_name]
  refine wpAny_pure ⟨plainId_quiet F.plain_max_loop _, mx_turns wk (CmpOf.ints_gt (numAt xs) (fun _ _ => intItems_at)) (bt := fun i j => decide (numAt xs i > numAt xs j)) (fun z => Nat.lt_irrefl _ (fp2 _ z)) _ 0 _ #[] 0 (Nat.zero_add _).symm (wk.frame _ _ _ st2 fun b _ o e => Heap.get?_push_of_some _ e) (.inl ⟨rfl, rfl⟩) (Heap.get?_push_size _ rfl) fun v h2 tk2 q0 q1 k2 => ?_⟩
  have keep : ∀ b o, s.heap.get? b = some o → h2.get? b = some o := fun b o z => k2 b o (by
    intro m
    have := List.mem_singleton.mp m
    subst this
    exact Nat.lt_irrefl _ (Heap.lt_size z)) (by
    intro m
    subst m
    have h9 := Heap.lt_size z
    exact Nat.lt_irrefl _ (Nat.lt_of_succ_lt (Nat.lt_of_le_of_lt (Nat.le_of_eq (size_push' _ _).symm) h9))) (Heap.get?_push_of_some _ (Heap.get?_push_of_some _ z))
  have sz : (intItems xs).size = xs.size := by simp [intItems]
  rw [sz] at q0 q1
  by_cases h0 : xs.size = 0
  · rw [q0 h0]
    have : xs.toList = [] := by
      have := Array.length_toList (xs := xs)
      exact List.eq_nil_of_length_eq_zero (by omega)
    exact ⟨.int d, H, I.kept keep, ⟨_, rfl⟩, by rw [this] at q; exact q⟩
  · have h1 := q1 (by omega)
    obtain ⟨t, rfl⟩ := intItems_at h1
    obtain ⟨g1, g2⟩ := argBest_gt (numAt xs) (xs.size - 1)
    refine ⟨.int _, H, I.kept keep, ⟨_, rfl⟩, ?_⟩
    rw [maxD_of (m := numAt xs (argBest (fun i j => decide (numAt xs i > numAt xs j)) (xs.size - 1))) ?_ fun y hy => ?_] at q
    · exact q
    · rw [numAt_eq]; exact PySem.getD_mem (by rw [List.length_map, Array.length_toList]; omega)
    · obtain ⟨j, hj, rfl⟩ := mem_getD hy
      rw [List.length_map, Array.length_toList] at hj
      rw [← numAt_eq]; exact g2 j (by omega)
end DL

/-! The data layer: recursion, extend, ranges, dict displays, max with a default. -/
namespace DL
open PySem PySem.Spec PyProof.Rows L2
section
variable {X : Cx} {K : PySem.W.Frag} {cA : Str → Addr} {W : WX} {B : Addr → Prop} {ι ι' : List Addr} {S : Sto} {H H' : Hp} {σ : L2.St} {e : En} {a b c : Expr} {ma mb : ME} {xs : MA} {pos : Pos} {es : List Expr} {sb : MS} {st : Stmt}
variable {P : Program} {w : World} {mg : Str → Option Value} {base : Heap}
/-- a function that nobody has shown anything of -/
theorem fd_bad {x : Str} {sd : Stmt} {f : Addr} {fd : FuncData} {N ps : List Str} {k : Nat} (F : Fun K x x sd f fd) (mgf : mg x = some (.ref f)) (kp : PySem.W.keepIn K (.ref f) = true) (b : Binds K fd ps []) (sc : FnScope N ps (defScope sd)) :
    FD P w K mg base cA (k + 1) x ps.length (fun _ _ => .bad) :=
  ⟨f, fd, ps, F.okX sc (sp := spM K cA ps.length fun _ _ => .bad) (fun vs H Q E h => spM_len h) (fun cdv A outer s H vs Q E hr h => by
    obtain ⟨_, _, _, _, _, _, _, z⟩ := h
    exact False.elim z), mgf, kp, b⟩

/-! ### extend -/
def extI (S : Sto) : D → D → RE
  | .obj n, d => match S[n]?, view S d with
    | some (.lst ds), .lst zs => if (ds.length + zs.length ≤ 16777216 ∧ noS d = true) then .ok .non (S.set n (.lst (ds ++ zs))) else .bad
    | _, _ => .bad
  | _, _ => .bad
def eExt (mo mv : ME) : ME := fun e S => (mo e S).bind fun o S1 => if isL S1 o = true then (mv e S1).bind fun d S2 => extI S2 o d else .bad
theorem q_ext {o v : Expr} {mo mv : ME} {apos : Pos} (ho : PE X o (tE X.K cA W mo)) (hv : PE X v (tE X.K cA W mv))
    (h : ∀ {to : TE} {t : TA}, PE X o to → PA X [v] t → PE X (.Call (.Attribute o "extend" apos) [v] [] pos) (tBM X.K "list" rExtend to t)) (hst : starEach [v] X.env = [(false, eval v X.env)] := by rfl) : PE X (.Call (.Attribute o "extend" apos) [v] [] pos) (tE X.K cA W (eExt mo mv)) :=
  PEi (h ho (pa_cons hv pa_nil hst)) fun σ H Q ⟨B, ι, e, S, re, p⟩ =>
    .of re (po_bind re p fun ι1 v1 H1 d1 S1 f1 r1 rd1 p1 => by
      split at p1
      · rename_i hl
        unfold isL at hl
        split at hl
        · rename_i n
          split at hl
          · rename_i ds0 q0
            obtain ⟨a, h1, us0, h20, h30⟩ := r1.rs.at_ n _ q0
            obtain ⟨a', rfl, h4⟩ := rd1.obj
            rw [h1] at h4; cases h4
            refine ⟨.inl ⟨rfl, _, SqL.of h20⟩, .of r1 (po_bind r1 p1 fun ι2 v2 H2 d2 S2 f2 r2 rd2 p2 => ?_)⟩
            unfold extI at p2
            simp only at p2
            split at p2
            · rename_i ds zs q q2
              split at p2
              · rename_i hz
                obtain ⟨a2, h5, us, h6, h7⟩ := r2.rs.at_ n _ q
                rw [f2.get h1] at h5; cases h5
                obtain ⟨b, ys, rfl, h8, h9⟩ := v_lstR r2.rs rd2 q2 hz.2
                refine ⟨a, b, us, ys, rfl, rfl, h6, h8, by rw [sizeL, ← h7.len, ← h9.len]; exact hz.1, ?_⟩
                have fr : Fr ι2 ι2 H2 (upd H2 a (.lst (us ++ ys))) := Fr.at (List.mem_of_getElem? (f2.get h1))
                exact p2 ι2 _ _ fr (r2.rs.setL q (f2.get h1) (h7.append h9)) RD.mk_non
              · exact p2.elim
            · exact p2.elim
          · cases hl
        · cases hl
      · exact p1.elim)

theorem PAm {σ : L2.St} {H : Hp} {Q Q' : List V → Hp → Prop} (h : tA K cA W xs σ H Q) (k : ∀ vs H1, Q vs H1 → Q' vs H1) : tA K cA W xs σ H Q' := by
  obtain ⟨B, ι, e, S, re, p⟩ := h
  refine .of re ?_
  revert p
  cases xs e S with
  | bad => exact _root_.id
  | exc c S1 => exact _root_.id
  | ok ds S1 => exact fun p ι1 vs H1 f r rd => k _ _ (p ι1 vs H1 f r rd)
/-! ### ranges -/
/-- range(..): where from, how many -/
def rgs : List D → Option (Int × Nat)
  | [.int n] => if -(2 ^ 62) ≤ n ∧ n < 2 ^ 62 then some (0, n.toNat) else none
  | [.int i, .int j] => if (-(2 ^ 62) ≤ i ∧ i < 2 ^ 62) ∧ -(2 ^ 62) ≤ j ∧ j < 2 ^ 62 then some (i, (j - i).toNat) else none
  | _ => none
noncomputable def sForG (it : MA) (tg : MTg) (body : MS) : MS := fun e S => match it e S with
  | .ok ds S1 => match rgs ds with
    | some (lo, n) => forD (fun _ => True) tg body (rng lo n) e S1
    | none => .bad
  | .exc c S1 => .exc c e S1
  | .bad => .bad
/-- what a range of arguments asks -/
theorem rng_go {xs : List V} {ds : List D} {lo : Int} {n : Nat} {R : It → Hp → Prop} (rd : RDs K cA B ι H ds xs) (h : rgs ds = some (lo, n)) (q : R (Itr lo n) H) :
    ((∃ d, ds = [d]) → ∃ j : Int, xs = [.int j] ∧ -(2 ^ 62) ≤ j ∧ j < 2 ^ 62 ∧ R (Itr 0 j.toNat) H) ∧ ((∃ d d', ds = [d, d']) → ∃ i j : Int, xs = [.int i, .int j] ∧ (-(2 ^ 62) ≤ i ∧ i < 2 ^ 62 ∧ -(2 ^ 62) ≤ j ∧ j < 2 ^ 62) ∧ R (Itr i (j - i).toNat) H) := by
  unfold rgs at h
  split at h
  · split at h
    · rename_i hn
      cases h
      obtain ⟨v, rfl, rd2⟩ := rd.one
      exact ⟨fun _ => ⟨_, by rw [rd2.int], hn.1, hn.2, q⟩, fun ⟨_, _, z⟩ => by cases z⟩
    · cases h
  · split at h
    · rename_i hn
      cases h
      obtain ⟨v, v', rfl, rd2, rd3⟩ := rd.two
      exact ⟨fun ⟨_, z⟩ => (by cases z), fun _ => ⟨_, _, by rw [rd2.int, rd3.int], ⟨hn.1.1, hn.1.2, hn.2.1, hn.2.2⟩, q⟩⟩
    · cases h
  · cases h
/-- arguments: so many -/
structure PAn (X : Cx) (es : List Expr) (cA : Str → Addr) (W : WX) (n : Nat) (m : MA) : Prop where
  pa : PA X es (tA X.K cA W m)
  len : ∀ e S ds S', m e S = .ok ds S' → ds.length = n
theorem aC_len {m : ME} {r : MA} {n : Nat} (h : ∀ e S ds S', r e S = .ok ds S' → ds.length = n) : ∀ e S ds S', aC m r e S = .ok ds S' → ds.length = n + 1 := by
  intro e S ds S' q
  unfold aC RE.bindA at q
  cases q1 : m e S with
  | bad => rw [q1] at q; cases q
  | exc _ _ => rw [q1] at q; cases q
  | ok d S1 =>
    rw [q1] at q
    simp only at q
    unfold RA.bindA at q
    cases q2 : r e S1 with
    | bad => rw [q2] at q; cases q
    | exc _ _ => rw [q2] at q; cases q
    | ok ds2 S2 =>
      rw [q2] at q
      cases q
      rw [List.length_cons, h _ _ _ _ q2]
theorem aN_len : ∀ e S ds S', aN e S = .ok ds S' → ds.length = 0 := by
  intro e S ds S' q
  cases q
  rfl
theorem for_rgs {g : TG} {m : MTg} {sl : List Nat} {wi : TI} {D' : Ends} (ht : TgD X.K cA g m sl)
    (hw : ∀ σ H (R : It → Hp → Prop), (tA X.K cA W xs σ H fun vs H1 => ∃ B ι ds lo n, RDs X.K cA B ι H1 ds vs ∧ (∃ e S S', xs e S = .ok ds S') ∧ rgs ds = some (lo, n) ∧ R (Itr lo n) H1) → wi σ H R)
    (re : Rel X.K cA B ι e S σ H) (p : PoS X.K cA W B (sForG xs m sb e S) ι H D') :
    wi σ H fun J H1 => ∃ Wd : Nat → Nat → L2.St → Hp → Prop, (∃ n, Wd 0 n σ H1) ∧ ∀ i n σ H, Wd i n σ H →
      (J.stop i H ∧ D'.nx σ H) ∨ (J.go i H ∧ ∃ N : L2.St → Hp → Prop, (∀ σ' H', N σ' H' → ∃ n', n' < n ∧ Wd (i + 1) n' σ' H') ∧ ∀ x H', J.yld i H x H' → g x σ H' fun σ2 H2 => tS X.K cA W sb { D' with nx := N, ct := N, bk := D'.nx } σ2 H2) := by
  refine hw σ H _ (.of re ?_)
  unfold sForG at p
  cases q : xs e S with
  | bad => rw [q] at p; exact p.elim
  | exc c S1 => rw [q] at p; exact fun ι' H' fr rs => p ι' σ H' fr (re.fr fr rs)
  | ok ds S1 =>
    rw [q] at p
    simp only at p
    intro ι1 vs H1 f1 rs1 rd1
    split at p
    · rename_i lo n hr
      exact ⟨B, ι1, ds, lo, n, rd1, ⟨e, S, S1, q⟩, hr, for_wk (C := fun _ => True) (g := g) (m := m) (body := sb) (D' := D') wk_rng ht (fun _ _ _ _ _ _ _ _ => True.intro) (re.fr f1 rs1) (PoS.on f1 p)⟩
    · exact p.elim
theorem s_forG1 {g : TG} {m : MTg} {sl : List Nat} {tg : Expr} {body : List Stmt} {p : Pos} {pos' : Pos} (hp : PassesOwn (model X.prog X.w) X.A X.env X.xe) (hc : X.calm = true) (hgl : Gl X "range") (hm : X.mg "range" = none) (hi : PE X a (tE X.K cA W ma)) (hg : PG X tg g) (ht : TgD X.K cA g m sl) (hb : PSs X body (tS X.K cA W sb))
    (hs : ∀ x, foldedSetIterable (.Call (.Name "range" p) [a] [] pos') X.env x = pure x := by intro _; rfl) (hst : starEach [a] X.env = [(false, eval a X.env)] := by rfl) : PS X (.For tg (.Call (.Name "range" p) [a] [] pos') body [] pos) (tS X.K cA W (sForG (aC ma aN) m sb)) :=
  PSi (ps_for hp hc (pi_range1 hgl hm (a_cons hi a_nil hst) hst) hg hb hs) fun D' σ H ⟨B, ι, e, S, re, p⟩ => for_rgs (wi := iRng1 (tA X.K cA W (aC ma aN))) ht (fun σ H R h => PAm h fun vs H1 ⟨B, ι, ds, lo, n, rd, ⟨e, S, S', z⟩, hr, q⟩ => (rng_go rd hr q).1 (by
    have := aC_len aN_len _ _ _ _ z
    match ds, this with
    | [d], _ => exact ⟨d, rfl⟩)) re p
theorem s_forG2 {g : TG} {m : MTg} {sl : List Nat} {tg : Expr} {body : List Stmt} {p : Pos} {pos' : Pos} (hp : PassesOwn (model X.prog X.w) X.A X.env X.xe) (hc : X.calm = true) (hgl : Gl X "range") (hm : X.mg "range" = none) (hi : PE X a (tE X.K cA W ma)) (hj : PE X b (tE X.K cA W mb)) (hg : PG X tg g) (ht : TgD X.K cA g m sl) (hb : PSs X body (tS X.K cA W sb))
    (hs : ∀ x, foldedSetIterable (.Call (.Name "range" p) [a, b] [] pos') X.env x = pure x := by intro _; rfl) (hst1 : starEach [b] X.env = [(false, eval b X.env)] := by rfl) (hst : starEach [a, b] X.env = [(false, eval a X.env), (false, eval b X.env)] := by rfl) : PS X (.For tg (.Call (.Name "range" p) [a, b] [] pos') body [] pos) (tS X.K cA W (sForG (aC ma (aC mb aN)) m sb)) :=
  PSi (ps_for hp hc (pi_range2 hgl hm (a_cons hi (a_cons hj a_nil hst1) (by rw [hst, hst1])) hst hst1) hg hb hs) fun D' σ H ⟨B, ι, e, S, re, p⟩ => for_rgs (wi := iRng2 (tA X.K cA W (aC ma (aC mb aN)))) ht (fun σ H R h => PAm h fun vs H1 ⟨B, ι, ds, lo, n, rd, ⟨e, S, S', z⟩, hr, q⟩ => (rng_go rd hr q).2 (by
    have := aC_len (aC_len aN_len) _ _ _ _ z
    match ds, this with
    | [d, d'], _ => exact ⟨d, d', rfl⟩)) re p
end
end DL

/-! The data layer: comprehensions over ranges, dict displays, max with a default. -/
namespace DL
open PySem PySem.Spec PyProof.Rows L2
section
variable {X : Cx} {K : PySem.W.Frag} {cA : Str → Addr} {W : WX} {B : Addr → Prop} {ι ι' : List Addr} {S : Sto} {H H' : Hp} {σ : L2.St} {e : En} {a b c : Expr} {ma mb : ME} {xs : MA} {pos : Pos} {es : List Expr} {sb : MS} {st : Stmt}
noncomputable def eLcG (it : MA) (tg : MTg) (tt : MB) (el : ME) (own : List Nat) : ME := fun e S => match it e S with
  | .ok ds S1 => match rgs ds with
    | some (lo, n) => lcD (fun _ => True) tg tt el (wipeE e own) (rng lo n) [] S1
    | none => .bad
  | .exc c S1 => .exc c S1
  | .bad => .bad
section
variable {it tg elt : Expr} {ifs : List Expr} {g : TG} {m : MTg} {sl : List Nat} {tt : MB} {el : ME} {own : List (Str × Nat)} {scope : Scope} {wi : TI}
theorem PoE.on' {r : RE} {ι ι' : List Addr} {H H' : Hp} {Q : VK} (fr : Fr ι ι' H H') (h : PoE K cA W B r ι σ H Q) : PoE K cA W B r ι' σ H' Q := by
  cases r with
  | bad => exact h
  | ok d2 S2 => exact fun ι2 v2 H2 f2 r2 d2 => h ι2 v2 H2 (fr.trans f2) r2 d2
  | exc c S2 => exact fun ι2 H2 f2 r2 => h ι2 H2 (fr.trans f2) r2
theorem lc_rgs (hg : TgD X.K cA g m sl) (hsl : ∀ i ∈ sl, i ∈ own.map (·.2))
    (hw : ∀ σ H (R : It → Hp → Prop), (tA X.K cA W xs σ H fun vs H1 => ∃ B ι ds lo n, RDs X.K cA B ι H1 ds vs ∧ (∃ e S S', xs e S = .ok ds S') ∧ rgs ds = some (lo, n) ∧ R (Itr lo n) H1) → wi σ H R) :
    ∀ σ H Q, tE X.K cA W (eLcG xs m tt el (own.map (·.2))) σ H Q → tLc wi g (tT X.K cA WF tt) (tE X.K cA WF el) (own.map (·.2)) σ H Q := fun σ H Q ⟨B, ι, e, S, re, p⟩ => by
  unfold eLcG at p
  refine hw σ H _ (.of re ?_)
  cases q : xs e S with
  | bad => rw [q] at p; exact p.elim
  | exc c S1 => rw [q] at p; exact p
  | ok ds S1 =>
    rw [q] at p
    simp only at p
    intro ι1 vs H1 f1 rs1 rd1
    split at p
    · rename_i lo n hr
      refine ⟨B, ι1, ds, lo, n, rd1, ⟨e, S, S1, q⟩, hr, fun p' np => ?_⟩
      exact lc_wk (W := W) (C := fun _ => True) (g := g) (m := m) (tt := tt) (el := el) (own := own.map (·.2)) (Q := Q) (wk_rng (lo := lo) (n := n)) hg hsl np (fun _ _ _ _ _ _ => True.intro) (re.fr f1 rs1) (PoE.on' f1 p)
    · exact p.elim
variable {p : Pos} {pos' : Pos}
theorem w_rng1 : ∀ σ H (R : It → Hp → Prop), (tA X.K cA W (aC ma aN) σ H fun vs H1 => ∃ B ι ds lo n, RDs X.K cA B ι H1 ds vs ∧ (∃ e S S', aC ma aN e S = .ok ds S') ∧ rgs ds = some (lo, n) ∧ R (Itr lo n) H1) → iRng1 (tA X.K cA W (aC ma aN)) σ H R :=
  fun σ H R h => PAm h fun vs H1 ⟨B, ι, ds, lo, n, rd, ⟨e, S, S', z⟩, hr, q⟩ => (rng_go rd hr q).1 (by
    have := aC_len aN_len _ _ _ _ z
    match ds, this with
    | [d], _ => exact ⟨d, rfl⟩)
theorem w_rng2 : ∀ σ H (R : It → Hp → Prop), (tA X.K cA W (aC ma (aC mb aN)) σ H fun vs H1 => ∃ B ι ds lo n, RDs X.K cA B ι H1 ds vs ∧ (∃ e S S', aC ma (aC mb aN) e S = .ok ds S') ∧ rgs ds = some (lo, n) ∧ R (Itr lo n) H1) → iRng2 (tA X.K cA W (aC ma (aC mb aN))) σ H R :=
  fun σ H R h => PAm h fun vs H1 ⟨B, ι, ds, lo, n, rd, ⟨e, S, S', z⟩, hr, q⟩ => (rng_go rd hr q).2 (by
    have := aC_len (aC_len aN_len) _ _ _ _ z
    match ds, this with
    | [d, d'], _ => exact ⟨d, d', rfl⟩)
theorem i_rng1 (hgl : Gl X "range") (hm : X.mg "range" = none) (hi : PE X a (tE X.K cA W ma)) (hst : starEach [a] X.env = [(false, eval a X.env)] := by rfl) : PI X tg (.Call (.Name "range" p) [a] [] pos') (iRng1 (tA X.K cA W (aC ma aN))) := pi_range1 hgl hm (a_cons hi a_nil hst) hst
theorem i_rng2 (hgl : Gl X "range") (hm : X.mg "range" = none) (hi : PE X a (tE X.K cA W ma)) (hj : PE X b (tE X.K cA W mb)) (hst1 : starEach [b] X.env = [(false, eval b X.env)] := by rfl) (hst : starEach [a, b] X.env = [(false, eval a X.env), (false, eval b X.env)] := by rfl) :
    PI X tg (.Call (.Name "range" p) [a, b] [] pos') (iRng2 (tA X.K cA W (aC ma (aC mb aN)))) := pi_range2 hgl hm (a_cons hi (a_cons hj a_nil hst1) (by rw [hst, hst1])) hst hst1
theorem q_lcG (hw : ∀ σ H (R : It → Hp → Prop), (tA X.K cA W xs σ H fun vs H1 => ∃ B ι ds lo n, RDs X.K cA B ι H1 ds vs ∧ (∃ e S S', xs e S = .ok ds S') ∧ rgs ds = some (lo, n) ∧ R (Itr lo n) H1) → wi σ H R)
    (ht : TgD X.K cA g m sl) (hsl : ∀ i ∈ sl, i ∈ own.map (·.2)) (hc : X.calm = true) (hN : X.N.Nodup) (hi : PI X tg it wi) (ok : BlkOk X.N X.env.scope scope own)
    (hg : ∀ (s : Shared) (H : Hp) (C : Addr) (cl : List (Str × Addr)) (fp : List Addr), PG (X.blk s H scope (compEnvC scope cl C X.env) fp) tg g) (hx : ∀ (s : Shared) (H : Hp) (C : Addr) (cl : List (Str × Addr)) (fp : List Addr), PTs (X.blk s H scope (compEnvC scope cl C X.env) fp) ifs (tT X.K cA WF tt))
    (he : ∀ (s : Shared) (H : Hp) (C : Addr) (cl : List (Str × Addr)) (fp : List Addr), PE (X.blk s H scope (compEnvC scope cl C X.env) fp) elt (tE X.K cA WF el)) (hs : ∀ x, foldedSetIterable it X.env x = pure x := by intro _; rfl) :
    PE X (.ListComp elt [⟨tg, it, ifs, 0⟩] scope pos) (tE X.K cA W (eLcG xs m tt el (own.map (·.2)))) := PEi (pe_lc hc hN hi ok hg hx he hs) (lc_rgs ht hsl hw)
theorem s_setLcG {i : Nat} {y : Str} {py spos : Pos} (hw : ∀ σ H (R : It → Hp → Prop), (tA X.K cA W xs σ H fun vs H1 => ∃ B ι ds lo n, RDs X.K cA B ι H1 ds vs ∧ (∃ e S S', xs e S = .ok ds S') ∧ rgs ds = some (lo, n) ∧ R (Itr lo n) H1) → wi σ H R)
    (ht : TgD X.K cA g m sl) (hsl : ∀ i ∈ sl, i ∈ own.map (·.2)) (hc : X.calm = true) (hN : X.N.Nodup) (hy : X.N[i]? = some y) (hyl : X.env.scope.names.lookup y = some .local)
    (hsw : swapsWith (.ListComp elt [⟨tg, it, ifs, 0⟩] scope pos) (some (.Name y py)) spos.line X.env = pure true) (hi : PI X tg it wi) (ok : BlkOk X.N X.env.scope scope own)
    (hg : ∀ (s : Shared) (H : Hp) (C : Addr) (cl : List (Str × Addr)) (fp : List Addr), PG (X.blk s H scope (compEnvC scope cl C X.env) fp) tg g) (hx : ∀ (s : Shared) (H : Hp) (C : Addr) (cl : List (Str × Addr)) (fp : List Addr), PTs (X.blk s H scope (compEnvC scope cl C X.env) fp) ifs (tT X.K cA WF tt))
    (he : ∀ (s : Shared) (H : Hp) (C : Addr) (cl : List (Str × Addr)) (fp : List Addr), PE (X.blk s H scope (compEnvC scope cl C X.env) fp) elt (tE X.K cA WF el)) (hs : ∀ x, foldedSetIterable it X.env x = pure x := by intro _; rfl) :
    PS X (.Assign [.Name y py] (.ListComp elt [⟨tg, it, ifs, 0⟩] scope pos) spos) (tS X.K cA W (sSet i (eLcG xs m tt el (own.map (·.2))))) :=
  PSi (ps_setLc hc hN hy hyl hsw hi ok hg hx he hs) fun D' σ H ⟨B, ι, e, S, re, p⟩ => lc_rgs ht hsl hw σ H _ (.of re (po_bindS re p fun ι1 v1 H1 d1 S1 f1 r1 rd1 p1 => p1 ι1 _ H1 Fr.refl (r1.set rd1)))
end

/-! ### dict displays -/
def keyD : D → Option Key
  | .int i => some (.inl i)
  | .str x => some (.inr x)
  | _ => none
theorem keyD_V {d : D} {v : V} {k : Key} (rd : RD K cA B ι H d v) (h : keyD d = some k) : v = kV k := by
  cases d with
  | int i => cases h; rw [rd.int]; rfl
  | str i => cases h; rw [rd.str]; rfl
  | _ => cases h
def prsD : List (ME × ME) → En → Sto → Option (List (Key × D) × Sto)
  | [], _, S => some ([], S)
  | p :: r, e, S => match p.1 e S with
    | .ok dk S1 => match keyD dk, p.2 e S1 with
      | some k, .ok dv S2 => match prsD r e S2 with
        | some (kvs, S3) => some ((k, dv) :: kvs, S3)
        | none => none
      | _, _ => none
    | _ => none
def eDisp (ps : List (ME × ME)) : ME := fun e S => match prsD ps e S with
  | some (kvs, S') => if kvs.length ≤ 15 ∧ (kvs.map (·.1)).Nodup then .ok (.dct (kvs.map (·.1)) (kvs.map (·.2))) S' else .bad
  | none => .bad
theorem merge_nd : ∀ {more acc : List (Key × V)}, ((acc ++ more).map (·.1)).Nodup → mergeK acc more = acc ++ more
  | [], acc, _ => by simp [mergeK]
  | kv :: r, acc, h => by
    have h1 : putK acc kv.1 kv.2 = acc ++ [kv] := by
      unfold putK
      rw [if_neg]
      intro z
      rw [List.any_eq_true] at z
      obtain ⟨q, hq, e⟩ := z
      rw [decide_eq_true_eq] at e
      rw [List.map_append, List.map_cons, List.nodup_append] at h
      exact h.2.2 q.1 (List.mem_map_of_mem hq) kv.1 List.mem_cons_self e
    show mergeK (putK acc kv.1 kv.2) r = _
    rw [h1, merge_nd (by simpa using h)]
    simp
theorem prs_ok {Q : List (V × V) → Hp → Prop} : ∀ {ps : List (ME × ME)} {ι : List Addr} {S : Sto} {H : Hp} {kvs : List (Key × D)} {S' : Sto}, prsD ps e S = some (kvs, S') → Rel K cA B ι e S σ H →
    (∀ ι' H' (us : List V), Fr ι ι' H H' → RS K cA B ι' S' H' → RDs K cA B ι' H' (kvs.map (·.2)) us → Q ((kvs.map fun kv => kV kv.1).zip us) H') → tPairs (ps.map fun p => (tE K cA W p.1, tE K cA W p.2)) σ H Q
  | [], ι, S, H, kvs, S', h, re, q => by
    cases h
    exact q ι H [] Fr.refl re.rs .nil
  | pr :: ps, ι, S, H, kvs, S', h, re, q => by
    rw [prsD] at h
    cases q1 : pr.1 e S with
    | bad => rw [q1] at h; cases h
    | exc _ _ => rw [q1] at h; cases h
    | ok dk S1 =>
      rw [q1] at h
      simp only at h
      refine (show tE K cA W pr.1 σ H _ from .of re ?_)
      rw [q1]
      intro ι1 v1 H1 f1 rs1 rd1
      split at h
      · rename_i k dv S2 e1 e2
        split at h
        · rename_i kvs' S3 e3
          cases h
          have re1 := re.fr f1 rs1
          refine (show tE K cA W pr.2 σ H1 _ from .of re1 ?_)
          rw [e2]
          intro ι2 v2 H2 f2 rs2 rd2
          refine prs_ok e3 (re1.fr f2 rs2) fun ι3 H3 us f3 rs3 rd3 => ?_
          have := q ι3 H3 (v2 :: us) (f1.trans (f2.trans f3)) rs3 (.cons (RD.fr f3 _ _ rd2) rd3)
          rw [keyD_V rd1 e1]
          exact this
        · cases h
      · cases h
theorem q_disp {keys : List (Option Expr)} {values : List Expr} {ps : List (ME × ME)} (h : PPs X pos keys values (ps.map fun p => (tE X.K cA W p.1, tE X.K cA W p.2))) (hall : keys.all (·.isSome) = true := by rfl) (hl : keys.length = values.length := by rfl) (h0 : keys ≠ [] := by decide)
    (h15 : keys.length ≤ 15 := by decide) : PE X (.Dict keys values pos) (tE X.K cA W (eDisp ps)) := PEi (pe_disp h hall hl h0 h15) fun σ H Q ⟨B, ι, e, S, re, p⟩ => by
  unfold eDisp at p
  cases q1 : prsD ps e S with
  | none => rw [q1] at p; exact p.elim
  | some r =>
    obtain ⟨kvs, S'⟩ := r
    rw [q1] at p
    simp only at p
    split at p
    · rename_i hz
      intro p' np
      have rs0 := re.rs.apart (o := .dK []) np
      have re0 : Rel X.K cA (plus B p') ι e S σ (upd H p' (.dK [])) := ⟨rs0, re.len, fun i d h => let ⟨v, h1, h2⟩ := re.ev i d h; ⟨v, h1, (h2.add np).app⟩⟩
      refine prs_ok q1 re0 fun ι1 H1 us f1 rs1 rd1 => ?_
      have hB := rs1.nB p' (.inr rfl)
      have hp0 : p' ∉ ι := (rs0.nB p' (.inr rfl)).1
      have len := rd1.len
      rw [List.length_map] at len
      refine ⟨f1.st p' _ upd_same hp0, (kvs.map (·.1)).zip us, ?_, by rw [List.length_zip, List.length_map, ← len, Nat.min_self]; exact hz.1, ?_⟩
      · rw [show (kvs.map fun kv => kV kv.1) = (kvs.map (·.1)).map kV from by simp]
        rw [List.zip_map_left, List.map_congr_left]
        intro a _
        rfl
      · have hn : (((kvs.map (·.1)).zip us).map (·.1)) = kvs.map (·.1) := by
          rw [List.map_fst_zip]
          rw [List.length_map, len]; exact Nat.le_refl _
        rw [merge_nd (acc := []) (by rw [List.nil_append, hn]; exact hz.2)]
        refine p ι1 _ _ ?_ rs1.app.less ?_
        · refine ⟨f1.pre.imp fun l hl => ⟨hl.1, fun x hx => ⟨(hl.2 x hx).1, ?_⟩⟩, fun x o hx hi => ?_⟩
          · have h2 := (hl.2 x hx).2
            by_cases hxp : x = p'
            · rw [hxp]; exact np
            · rw [upd_ne hxp] at h2; exact h2
          · have hxp := ne_of_none hx np
            rw [upd_ne hxp]
            exact f1.st x o (by rw [upd_ne hxp]; exact hx) hi
        · rw [RD]
          refine ⟨p', us, rfl, hB.1, not_B re.rs np, upd_same, by rw [List.length_map]; exact len, rd1.app.mB fun _ z => .inl z⟩
    · exact p.elim

/-! ### a call of no arguments -/
theorem q_call0 {x : Str} {k j n : Nat} {m : MF} {p : Pos} (tk : Takes X W) (F : FD X.prog X.w X.K X.mg X.base cA k x n m) (hr : Room j X.A) (hk : k ≤ j) (hg : Gl X x) (hdb : (x == ("__debug__" : Str)) = false := by decide) :
    PE X (.Call (.Name x p) [] [] pos) (tE X.K cA W (eCall' n m aN)) := by
  obtain ⟨f, fd, ps, h1, h2, h3, h4⟩ := F.ex
  refine ⟨fun pins s σ H Q I ⟨B, ι, e, S, re, p⟩ => ?_⟩
  refine wpAny_Call_Name_kw (ld_glob I hg h2 ?_ hdb)
  refine PySem.W.callWith_K0 I.kIn h3 (run_fnS (E := WE W) (us := []) h1 (hr.mono hk) h4 (passAt tk σ) I .nil ?_)
  have p1 : PoE X.K cA W B (if ([] : List D).length = n then callS m [] S else .bad) ι σ H Q := p
  split at p1
  · rename_i hn
    subst hn
    exact call_sub re.rs RDs.nil p1
  · exact p1.elim
/-! ### max(.., default=d) -/
theorem k_nil : PK X [] (tA X.K cA W aN) := ⟨fun pos pins s σ H Q I ⟨B, ι, e, S, re, p⟩ => pk_nil.run pos pins s σ H Q I (p ι [] H Fr.refl re.rs RDs.nil)⟩
theorem k_cons {nm : Option Str} {kpos : Pos} {kws : List Keyword} (ha : PE X a (tE X.K cA W ma)) (hr : PK X kws (tA X.K cA W xs)) : PK X (⟨nm, a, kpos⟩ :: kws) (tA X.K cA W (aC ma xs)) :=
  ⟨fun pos pins s σ H Q I ⟨B, ι, e, S, re, p⟩ => (pk_cons ha hr).run pos pins s σ H Q I (.of re (po_bindA re p fun ι1 v1 H1 d1 S1 f1 r1 rd1 p1 => .of r1 (poA_bindA r1 p1 fun ι2 vs2 H2 ds2 S2 f2 r2 rd2 p2 => p2 ι2 _ H2 Fr.refl r2.rs (.cons (RD.fr f2 _ _ rd1) rd2))))⟩
def gMaxD (S : Sto) (a b : List D) : Option D := match a, b with
  | [d], [.int k] => match view S d with
    | .lst ds => (intL ds).map fun ns => .int (maxD k ns)
    | _ => none
  | _, _ => none
def eBK (g : Sto → List D → List D → Option D) (xs ks : MA) : ME := fun e S => (xs e S).bind fun ds S1 => (ks e S1).bind fun zs S2 => opt (g S2 ds zs) S2
theorem q_maxD {d : Expr} {p kpos : Pos} {md : ME} (hc : X.calm = true) (hg : Gl X "max") (hm : X.mg "max" = none) (ha : PE X a (tE X.K cA W ma)) (hd : PE X d (tE X.K cA W md))
    (hst : starEach [a] X.env = [(false, eval a X.env)] := by rfl)
    (he : backTo pos (starEach [a] X.env) = (false, eval a X.env) :: backTo pos (starEach [] X.env) := by rfl) (hpl : (backTo pos (starEach [a] X.env)).any (·.1) = false := by rfl)
    (hall : (backToKw pos (keywordEach [⟨some "default", d, kpos⟩] X.env)).all (·.1.isSome) = true := by rfl) (hnone : (backToKw pos (keywordEach [⟨some "default", d, kpos⟩] X.env)).any (·.1.isNone) = false := by rfl) (hks : (backToKw pos (keywordEach [⟨some "default", d, kpos⟩] X.env)).filterMap (·.1) = [Str.ofString "default"] := by rfl) :
    PE X (.Call (.Name "max" p) [a] [⟨some "default", d, kpos⟩] pos) (tE X.K cA W (eBK gMaxD (aC ma aN) (aC md aN))) :=
  PEi (pe_callBK (cr_maxDef hc) hg hm (by rfl) (a_cons ha a_nil hst) (k_cons hd k_nil) (by decide) (by decide) he hpl hall hnone hks) fun σ H Q ⟨B, ι, e, S, re, p⟩ =>
    .of re (poA_bind re p fun ι1 vs H1 ds S1 f1 r1 rd1 p1 => .of r1 (poA_bind r1 p1 fun ι2 zs H2 ks S2 f2 r2 rd2 p2 => by
      obtain ⟨r, hr, q⟩ := po_opt p2 r2.rs
      unfold gMaxD at hr
      split at hr
      · rename_i d k
        obtain ⟨v, rfl, rv⟩ := rd1.one
        obtain ⟨u, rfl, ru⟩ := rd2.one
        split at hr
        · rename_i ds hv
          obtain ⟨a', us, rfl, h1, h2⟩ := v_lst r2.rs (RD.fr f2 _ _ rv) hv
          cases q3 : intL ds with
          | none => rw [q3] at hr; cases hr
          | some ns =>
            rw [q3] at hr
            cases hr
            rw [ints_V h2 q3] at h1
            exact ⟨a', ns, k, rfl, by rw [ru.int], h1, q _ _ same_refl RD.mk_int⟩
        · cases hr
      · cases hr))
end
end DL

/-! The data layer: it ends well, and so. -/
namespace DL
open PySem PySem.Spec PyProof.Rows L2
abbrev QE := D → Sto → Prop
abbrev QA := List D → Sto → Prop
abbrev QB := Bool → Sto → Prop
abbrev QX := Str → Sto → Prop
abbrev noX : QX := fun _ _ => False
def OkE (r : RE) (Q : QE) (X : QX) : Prop := match r with | .ok d S => Q d S | .exc c S => X c S | .bad => False
def OkA (r : RA) (Q : QA) (X : QX) : Prop := match r with | .ok d S => Q d S | .exc c S => X c S | .bad => False
def OkB (r : RB) (Q : QB) (X : QX) : Prop := match r with | .ok d S => Q d S | .exc c S => X c S | .bad => False
structure PO where
  nx : En → Sto → Prop
  rt : D → Sto → Prop
  bk : En → Sto → Prop
  ct : En → Sto → Prop
  ex : Str → En → Sto → Prop
def OkS (r : RS') (P : PO) : Prop := match r with | .nx e S => P.nx e S | .ret d S => P.rt d S | .brk e S => P.bk e S | .cont e S => P.ct e S | .exc c e S => P.ex c e S | .bad => False
section
variable {Q : QE} {QA' : QA} {QB' : QB} {X : QX} {P : PO} {d : D} {ds : List D} {b : Bool} {S : Sto} {c : Str} {e : En}
@[simp] theorem OkE_ok : OkE (.ok d S) Q X = Q d S := rfl
@[simp] theorem OkE_exc : OkE (.exc c S) Q X = X c S := rfl
@[simp] theorem OkE_bad : OkE .bad Q X = False := rfl
@[simp] theorem OkA_ok : OkA (.ok ds S) QA' X = QA' ds S := rfl
@[simp] theorem OkA_exc : OkA (.exc c S) QA' X = X c S := rfl
@[simp] theorem OkA_bad : OkA .bad QA' X = False := rfl
@[simp] theorem OkB_ok : OkB (.ok b S) QB' X = QB' b S := rfl
@[simp] theorem OkB_exc : OkB (.exc c S) QB' X = X c S := rfl
@[simp] theorem OkB_bad : OkB .bad QB' X = False := rfl
@[simp] theorem OkS_nx : OkS (.nx e S) P = P.nx e S := rfl
@[simp] theorem OkS_ret : OkS (.ret d S) P = P.rt d S := rfl
@[simp] theorem OkS_brk : OkS (.brk e S) P = P.bk e S := rfl
@[simp] theorem OkS_cont : OkS (.cont e S) P = P.ct e S := rfl
@[simp] theorem OkS_exc : OkS (.exc c e S) P = P.ex c e S := rfl
@[simp] theorem OkS_bad : OkS .bad P = False := rfl
@[simp] theorem OkE_bind {r : RE} {f : D → Sto → RE} : OkE (r.bind f) Q X = OkE r (fun d S => OkE (f d S) Q X) X := by cases r <;> rfl
@[simp] theorem OkE_bindA {r : RE} {f : D → Sto → RA} : OkA (r.bindA f) QA' X = OkE r (fun d S => OkA (f d S) QA' X) X := by cases r <;> rfl
@[simp] theorem OkE_bindB {r : RE} {f : D → Sto → RB} : OkB (r.bindB f) QB' X = OkE r (fun d S => OkB (f d S) QB' X) X := by cases r <;> rfl
@[simp] theorem OkE_bindS {r : RE} {f : D → Sto → RS'} : OkS (r.bindS e f) P = OkE r (fun d S => OkS (f d S) P) (fun c S => P.ex c e S) := by cases r <;> rfl
@[simp] theorem OkA_bind {r : RA} {f : List D → Sto → RE} : OkE (r.bind f) Q X = OkA r (fun d S => OkE (f d S) Q X) X := by cases r <;> rfl
@[simp] theorem OkA_bindA {r : RA} {f : List D → Sto → RA} : OkA (r.bindA f) QA' X = OkA r (fun d S => OkA (f d S) QA' X) X := by cases r <;> rfl
@[simp] theorem OkB_bind {r : RB} {f : Bool → Sto → RE} : OkE (r.bind f) Q X = OkB r (fun d S => OkE (f d S) Q X) X := by cases r <;> rfl
@[simp] theorem OkB_bindB {r : RB} {f : Bool → Sto → RB} : OkB (r.bindB f) QB' X = OkB r (fun d S => OkB (f d S) QB' X) X := by cases r <;> rfl
@[simp] theorem OkB_bindS {r : RB} {f : Bool → Sto → RS'} : OkS (r.bindS e f) P = OkB r (fun d S => OkS (f d S) P) (fun c S => P.ex c e S) := by cases r <;> rfl
@[simp] theorem OkS_bind {r : RS'} {f : En → Sto → RS'} : OkS (r.bind f) P = OkS r ⟨fun e S => OkS (f e S) P, P.rt, P.bk, P.ct, P.ex⟩ := by cases r <;> rfl
theorem OkE_opt {o : Option D} : OkE (opt o S) Q X = ∃ d, o = some d ∧ Q d S := by cases o <;> simp [opt]
theorem OkE.mono {r : RE} {Q' : QE} {X' : QX} (h : OkE r Q X) (k : ∀ d S, Q d S → Q' d S) (kx : ∀ c S, X c S → X' c S) : OkE r Q' X' := by
  cases r with
  | ok d S => exact k _ _ h
  | exc c S => exact kx _ _ h
  | bad => exact h
theorem OkE.imp {r : RE} {Q' : QE} (h : OkE r Q X) (k : ∀ d S, Q d S → Q' d S) : OkE r Q' X := h.mono k fun _ _ h => h
theorem OkE.of {r : RE} {Q' : QE} (h : OkE r Q noX) (k : ∀ d S, Q d S → Q' d S) : OkE r Q' X := h.mono k fun _ _ h => h.elim
theorem OkE.eq {r : RE} (h : OkE r Q noX) : ∃ d S, r = .ok d S ∧ Q d S := by
  cases r with
  | ok d S => exact ⟨d, S, rfl, h⟩
  | exc c S => exact h.elim
  | bad => exact h.elim
theorem OkE.of_eq {r : RE} (e : r = .ok d S) (h : Q d S) : OkE r Q X := by rw [e]; exact h
theorem OkS.imp {r : RS'} {P' : PO} (h : OkS r P) (h1 : ∀ e S, P.nx e S → P'.nx e S) (h2 : ∀ d S, P.rt d S → P'.rt d S) (h3 : ∀ e S, P.bk e S → P'.bk e S) (h4 : ∀ e S, P.ct e S → P'.ct e S) (h5 : ∀ c e S, P.ex c e S → P'.ex c e S) : OkS r P' := by
  cases r with
  | bad => exact h
  | nx e S => exact h1 _ _ h
  | ret d S => exact h2 _ _ h
  | brk e S => exact h3 _ _ h
  | cont e S => exact h4 _ _ h
  | exc c e S => exact h5 _ _ _ h
theorem OkE_fnK {N : Nat} {body : MS} : OkE (fnK N body ds S) Q X = OkS (body (ds.map some ++ List.replicate (N - ds.length) none) S) ⟨fun _ S' => Q .non S', Q, fun _ _ => False, fun _ _ => False, fun c _ S' => X c S'⟩ := by
  unfold fnK
  cases body (ds.map some ++ List.replicate (N - ds.length) none) S <;> rfl
theorem OkE_fnD {N : Nat} {body : MS} : OkE (fnD N body ds S) Q X = OkE (fnK N body ds S) (fun d S' => (low S.length (still S.length S' d) = true ∧ (S'.take S.length).all (lowC S.length) = true) ∧ Q (still S.length S' d) (S'.take S.length)) (fun c S' => (S'.take S.length).all (lowC S.length) = true ∧ X c (S'.take S.length)) := by
  unfold fnD
  cases fnK N body ds S with
  | bad => rfl
  | ok d S' =>
    simp only [OkE_ok]
    split
    · rename_i h; exact propext ⟨fun z => ⟨h, z⟩, fun z => z.2⟩
    · rename_i h; exact propext ⟨fun z => z.elim, fun z => absurd z.1 h⟩
  | exc c S' =>
    simp only [OkE_exc]
    split
    · rename_i h; exact propext ⟨fun z => ⟨h, z⟩, fun z => z.2⟩
    · rename_i h; exact propext ⟨fun z => z.elim, fun z => absurd z.1 h⟩
mutual
theorem cl_low {k : Nat} : ∀ {d : D}, cl d = true → low k d = true
    | .non, _ => rfl
    | .bl _, _ => rfl
    | .int _, _ => rfl
    | .str _, _ => rfl
    | .tup ds, h => cls_lows (ds := ds) h
    | .lst ds, h => cls_lows (ds := ds) h
    | .dct _ ds, h => cls_lows (ds := ds) h
    | .obj _, h => by cases h
    | .scr ds, h => cls_lows (ds := ds) h
    | .exn _, _ => rfl
theorem cls_lows {k : Nat} : ∀ {ds : List D}, cls ds = true → lows k ds = true
    | [], _ => rfl
    | d :: ds, h => by
      rw [cls, Bool.and_eq_true] at h
      rw [lows, cl_low h.1, cls_lows h.2]; rfl
end
/-- a function of a store without cells -/
theorem OkE_fn0 {N : Nat} {body : MS} (h : OkE (fnK N body ds []) (fun d S => cl d = true ∧ Q d []) X) (hx : ∀ c S, X c S → X c []) : OkE (fnD N body ds []) Q X := by
  rw [OkE_fnD]
  refine h.mono (fun d S' hd => ?_) fun c S hc => ⟨by simp, by simpa using hx c S hc⟩
  obtain ⟨h1, h2⟩ := hd
  have hl : ∀ d : D, cl d = true → low 0 d = true := clow
  have hs : still 0 S' d = d := by cases d <;> first | rfl | cases h1
  simp only [List.length_nil, List.take_zero, hs]
  exact ⟨⟨hl d h1, rfl⟩, h2⟩
where
  clow : ∀ d : D, cl d = true → low 0 d = true := by
    intro d
    exact go d
  go : ∀ d : D, cl d = true → low 0 d = true
    | .non, _ => rfl
    | .bl _, _ => rfl
    | .int _, _ => rfl
    | .str _, _ => rfl
    | .tup ds, h => gos ds h
    | .lst ds, h => gos ds h
    | .dct _ ds, h => gos ds h
    | .obj _, h => by cases h
    | .scr ds, h => gos ds h
    | .exn _, _ => rfl
  gos : ∀ ds : List D, cls ds = true → lows 0 ds = true
    | [], _ => rfl
    | d :: ds, h => by
      rw [cls, Bool.and_eq_true] at h
      rw [lows, go d h.1, gos ds h.2]; rfl

/-! ### loops -/
theorem OkS_for {C : Sto → Prop} {tg : MTg} {body : MS} (I : Nat → En → Sto → Prop) : ∀ {ds : List D} {k : Nat} {e : En} {S : Sto}, I k e S → (∀ i d e S, ds[i]? = some d → I (k + i) e S → C S ∧ ∃ e1, tg d e = some e1 ∧ OkS (body e1 S) ⟨I (k + i + 1), P.rt, P.nx, I (k + i + 1), P.ex⟩) →
    (∀ e S, I (k + ds.length) e S → C S ∧ P.nx e S) → OkS (forD C tg body ds e S) P
  | [], k, e, S, h0, _, hd => by
    unfold forD
    rw [if_pos (hd e S h0).1]
    exact (hd e S h0).2
  | d :: ds, k, e, S, h0, h, hd => by
    obtain ⟨hC, e1, h1, h2⟩ := h 0 d e S rfl h0
    unfold forD
    rw [if_pos hC, h1]
    simp only
    have ih := fun e2 S2 (p2 : I (k + 1) e2 S2) => OkS_for (C := C) (tg := tg) (body := body) I (ds := ds) (k := k + 1) (e := e2) (S := S2) p2 (fun i d' e' S' hi p' => by
      have := h (i + 1) d' e' S' (by simpa using hi) (by rw [show k + (i + 1) = k + 1 + i by omega]; exact p')
      rw [show k + (i + 1) + 1 = k + 1 + i + 1 by omega] at this
      exact this) (fun e' S' p' => hd e' S' (by rw [show k + (d :: ds).length = k + 1 + ds.length by simp; omega]; exact p'))
    cases q : body e1 S with
    | nx e2 S2 => rw [q] at h2; exact ih e2 S2 h2
    | cont e2 S2 => rw [q] at h2; exact ih e2 S2 h2
    | brk e2 S2 => rw [q] at h2; exact h2
    | ret d2 S2 => rw [q] at h2; exact h2
    | exc c e2 S2 => rw [q] at h2; exact h2
    | bad => rw [q] at h2; exact h2.elim
theorem OkS_sFor {it : ME} {tg : MTg} {body : MS} : OkS (sFor it tg body e S) P = OkE (it e S) (fun d S1 => OkS (match items S1 d with | some ds => forD (fun S' => view S' d = view S1 d) tg body ds e S1 | none => .bad) P) (fun c S => P.ex c e S) := by
  rw [sFor_ap, OkE_bindS]
  all_goals rfl
theorem OkS_sForR {it : ME} {tg : MTg} {body : MS} : OkS (sForR it tg body e S) P = OkE (it e S) (fun d S1 => OkS (match d with | .int n => if -(2 ^ 62) ≤ n ∧ n < 2 ^ 62 then forD (fun _ => True) tg body (rng 0 n.toNat) e S1 else .bad | _ => .bad) P) (fun c S => P.ex c e S) := by
  rw [sForR_ap, OkE_bindS]
  all_goals rfl
theorem OkS_sForG {it : MA} {tg : MTg} {body : MS} : OkS (sForG it tg body e S) P = OkA (it e S) (fun d S1 => OkS (match rgs d with | some (lo, n) => forD (fun _ => True) tg body (rng lo n) e S1 | none => .bad) P) (fun c S => P.ex c e S) := by
  unfold sForG
  cases it e S <;> rfl
theorem OkE_eLc {it el : ME} {tg : MTg} {tt : MB} {own : List Nat} : OkE (eLc it tg tt el own e S) Q X = OkE (it e S) (fun d S1 => OkE (match items S1 d with | some ds => lcD (fun S' => view S' d = view S1 d) tg tt el (wipeE e own) ds [] S1 | none => .bad) Q X) X := by
  rw [eLc_ap, OkE_bind]
  all_goals rfl
theorem OkE_eLcG {it : MA} {el : ME} {tg : MTg} {tt : MB} {own : List Nat} : OkE (eLcG it tg tt el own e S) Q X = OkA (it e S) (fun d S1 => OkE (match rgs d with | some (lo, n) => lcD (fun _ => True) tg tt el (wipeE e own) (rng lo n) [] S1 | none => .bad) Q X) X := by
  unfold eLcG
  cases it e S <;> rfl
theorem OkE_lc {C : Sto → Prop} {tg : MTg} {tt : MB} {el : ME} {e0 : En} (J : Nat → List D → Sto → Prop) : ∀ {ds : List D} {k : Nat} {acc : List D} {S : Sto}, J k acc S → acc.length + ds.length ≤ 16777216 →
    (∀ i d acc S, ds[i]? = some d → J (k + i) acc S → C S ∧ ∃ e1, tg d e0 = some e1 ∧ OkB (tt e1 S) (fun b S1 => (b = true → OkE (el e1 S1) (fun x S2 => J (k + i + 1) (acc ++ [x]) S2) noX) ∧ (b = false → J (k + i + 1) acc S1)) noX) →
    (∀ acc S, J (k + ds.length) acc S → C S ∧ Q (.lst acc) S) → OkE (lcD C tg tt el e0 ds acc S) Q X
  | [], k, acc, S, h0, _, _, hd => by
    unfold lcD
    rw [if_pos (hd acc S h0).1]
    exact (hd acc S h0).2
  | d :: ds, k, acc, S, h0, hl, h, hd => by
    obtain ⟨hC, e1, h1, h2⟩ := h 0 d acc S rfl h0
    rw [List.length_cons] at hl
    unfold lcD
    rw [if_pos hC, h1]
    simp only
    have ih := fun acc2 S2 (p2 : J (k + 1) acc2 S2) (hl2 : acc2.length + ds.length ≤ 16777216) => OkE_lc (C := C) (tg := tg) (tt := tt) (el := el) (e0 := e0) J (ds := ds) (k := k + 1) (acc := acc2) (S := S2) p2 hl2 (fun i d' a' S' hi p' => by
      have := h (i + 1) d' a' S' (by simpa using hi) (by rw [show k + (i + 1) = k + 1 + i by omega]; exact p')
      rw [show k + (i + 1) + 1 = k + 1 + i + 1 by omega] at this
      exact this) (fun e' S' p' => hd e' S' (by rw [show k + (d :: ds).length = k + 1 + ds.length by simp; omega]; exact p'))
    cases q : tt e1 S with
    | bad => rw [q] at h2; exact h2.elim
    | exc c S2 => rw [q] at h2; exact h2.elim
    | ok b S1 =>
      rw [q] at h2
      cases b with
      | false => exact ih acc S1 (h2.2 rfl) (by omega)
      | true =>
        simp only
        have h3 := h2.1 rfl
        cases q2 : el e1 S1 with
        | bad => rw [q2] at h3; exact h3.elim
        | exc c S2 => rw [q2] at h3; exact h3.elim
        | ok x S2 =>
          rw [q2] at h3
          simp only
          rw [if_pos (by omega)]
          exact ih _ S2 h3 (by rw [List.length_append]; simp; omega)
theorem OkS_wh {c : MB} {body : MS} (I : Nat → En → Sto → Prop) (h : ∀ n e S, I n e S → OkB (c e S) (fun k S1 => (k = true → OkS (body e S1) ⟨fun e S => ∃ m, m < n ∧ I m e S, P.rt, P.nx, fun e S => ∃ m, m < n ∧ I m e S, P.ex⟩) ∧ (k = false → P.nx e S1)) (fun x S => P.ex x e S)) {n : Nat} (h0 : I n e S) : OkS (sWh c body e S) P := by
  suffices H : ∀ n e S, I n e S → OkS (whD c body (n + 1) e S) P by
    have h1 := H n e S h0
    rw [sWh_of (n := n + 1) rfl (by intro z; rw [z] at h1; exact h1)]
    exact h1
  intro n
  induction n using Nat.strongRecOn with
  | ind n ih =>
    intro e S hI
    have h1 := h n e S hI
    rw [whD, OkB_bindS]
    cases q : c e S with
    | bad => rw [q] at h1; exact h1
    | exc x S1 => rw [q] at h1; exact h1
    | ok k S1 =>
      rw [q] at h1
      rw [OkB_ok] at h1 ⊢
      cases k with
      | false => rw [if_neg (by decide)]; exact h1.2 rfl
      | true =>
        rw [if_pos rfl]
        have h2 := h1.1 rfl
        have go : ∀ e2 S2, (∃ m, m < n ∧ I m e2 S2) → OkS (whD c body n e2 S2) P := fun e2 S2 ⟨m, hm, hI2⟩ => by
          have h3 := ih m hm e2 S2 hI2
          rw [whD_le (n := m + 1) (m := n) (by intro z; rw [z] at h3; exact h3) hm]
          exact h3
        cases q2 : body e S1 with
        | bad => rw [q2] at h2; exact h2.elim
        | nx e2 S2 => rw [q2] at h2; exact go e2 S2 h2
        | cont e2 S2 => rw [q2] at h2; exact go e2 S2 h2
        | brk e2 S2 => rw [q2] at h2; exact h2
        | ret d S2 => rw [q2] at h2; exact h2
        | exc x e2 S2 => rw [q2] at h2; exact h2

/-! ### calls -/
theorem OkE_eCall {m : MF} {xs : MA} {n : Nat} : OkE (eCall' n m xs e S) Q X = OkA (xs e S) (fun ds S1 => OkE (if ds.length = n then callS m ds S1 else .bad) Q X) X := by
  rw [eCall_ap, OkA_bind]
theorem cl_flat {d : D} (h : cl d = true) : flatO d = true ∧ (∀ f, mapO f d = d) ∧ (∀ js, inj1 js d = true) := by
  cases d <;> first | exact ⟨h, fun _ => rfl, fun _ => rfl⟩ | cases h
/-- a call with no cell -/
theorem OkE_call0 {m : MF} (h : ds.all cl = true) (hm : OkE (m ds []) (fun d S' => S' = [] ∧ cl d = true ∧ Q d S) (fun c S' => S' = [] ∧ X c S)) : OkE (callS m ds S) Q X := by
  rw [call_none h]
  cases q : m ds [] with
  | bad => rw [q] at hm; exact hm
  | exc c S2 =>
    rw [q] at hm
    obtain ⟨rfl, h2⟩ := hm
    simpa using h2
  | ok d S2 =>
    rw [q] at hm
    obtain ⟨rfl, h2, h3⟩ := hm
    obtain ⟨h4, h5, _⟩ := cl_flat h2
    simpa [h4, h5] using h3
/-- .. that hands back cells -/
theorem OkE_call0K {m : MF} (h : ds.all cl = true) (hm : OkE (m ds []) (fun d S' => flatO d = true ∧ S'.all okC = true ∧ Q (mapO (outN [] S.length) d) (back [] S S')) noX) : OkE (callS m ds S) Q X := by
  rw [call_none h]
  cases q : m ds [] with
  | bad => rw [q] at hm; exact hm
  | exc c S2 => rw [q] at hm; exact hm.elim
  | ok d S2 =>
    rw [q] at hm
    obtain ⟨h1, h2, h3⟩ := hm
    simp only
    rw [h1, h2]
    exact h3
/-- .. with one -/
theorem OkE_call1 {m : MF} {k : Nat} {cc : Cell} (hk : S[k]? = some cc) (ht : tops ds = [k]) (hf : ds.all flatO = true) (hc : okC cc = true) (hki : kids cc = []) (hin : inC [k] cc = true) (hmp : mapC [k].idxOf cc = cc)
    (hm : OkE (m (ds.map (mapO [k].idxOf)) [cc]) (fun d S' => ∃ c', S' = [c'] ∧ okC c' = true ∧ (∀ f, mapC f c' = c') ∧ cl d = true ∧ Q d (S.set k c')) (fun c S' => ∃ c', S' = [c'] ∧ okC c' = true ∧ (∀ f, mapC f c' = c') ∧ X c (S.set k c'))) : OkE (callS m ds S) Q X := by
  have hl : k < S.length := (List.getElem?_eq_some_iff.mp hk).1
  have hclo : clo S 100 [k] [] = [k] := by
    simp [clo, hk, hki]
  have hinj : ds.all (inj1 [k]) = true := List.all_eq_true.mpr fun d hd => by
    cases d with
    | obj n =>
      have : n ∈ tops ds := List.mem_filterMap.mpr ⟨_, hd, rfl⟩
      rw [ht, List.mem_singleton] at this
      subst this
      simp [inj1]
    | _ => rfl
  have hg : S.getD k (.lst []) = cc := by rw [List.getD_eq_getElem?_getD, hk]; rfl
  have hb : ∀ c', (∀ f, mapC f c' = c') → back [k] S [c'] = S.set k c' := fun c' hc' => by
    unfold back
    refine List.ext_getElem? fun i => ?_
    simp only [List.length_singleton, List.drop_succ_cons, List.drop_nil, List.map_nil, List.append_nil, List.getElem?_mapIdx]
    by_cases hi : k = i
    · subst hi
      rw [List.getElem?_set_self hl, hk]
      simp [hc']
    · rw [List.getElem?_set_ne hi]
      cases S[i]? with
      | none => rfl
      | some c => simp [Ne.symm hi]
  unfold callS callJ
  rw [ht, hclo]
  have hgc : goodC [k] S k = true := by unfold goodC; rw [hk]; simp [hc, hin]
  simp only [hinj, hf, List.all_cons, List.all_nil, hgc, List.map_cons, List.map_nil, hg, hmp]
  rw [if_pos (by simp)]
  cases q : m (ds.map (mapO [k].idxOf)) [cc] with
  | bad => rw [q] at hm; exact hm
  | exc c S2 =>
    rw [q] at hm
    obtain ⟨c', rfl, h1, h2, h3⟩ := hm
    simp [h1, hb c' h2, h3]
  | ok d S2 =>
    rw [q] at hm
    obtain ⟨c', rfl, h1, h2, h3, h4⟩ := hm
    obtain ⟨h5, h6, _⟩ := cl_flat h3
    simp [h1, hb c' h2, h4, h5, h6]
/-- .. with one list -/
theorem OkE_callL {m : MF} {k : Nat} {xs : List D} (hk : S[k]? = some (.lst xs)) (ht : tops ds = [k]) (hf : ds.all flatO = true) (hc : cls xs = true)
    (hm : OkE (m (ds.map (mapO [k].idxOf)) [.lst xs]) (fun d S' => ∃ ys, S' = [.lst ys] ∧ cls ys = true ∧ cl d = true ∧ Q d (S.set k (.lst ys))) (fun c S' => ∃ ys, S' = [.lst ys] ∧ cls ys = true ∧ X c (S.set k (.lst ys)))) : OkE (callS m ds S) Q X :=
  have hc' : clC (.lst xs) = true := hc
  OkE_call1 hk ht hf (clC_okC hc') (clC_kids hc') (clC_inC hc' _) (clC_mapC hc' _) (hm.mono (fun d S' ⟨ys, h1, h2, h3, h4⟩ => ⟨.lst ys, h1, clC_okC (c := .lst ys) h2, fun _ => clC_mapC (c := .lst ys) h2 _, h3, h4⟩) fun c S' ⟨ys, h1, h2, h3⟩ => ⟨.lst ys, h1, clC_okC (c := .lst ys) h2, fun _ => clC_mapC (c := .lst ys) h2 _, h3⟩)
end
end DL

/-! The data layer: rules, step by step. -/
namespace DL
open PySem PySem.Spec PyProof.Rows L2
def Cond (b : Bool) (p q : Prop) : Prop := (b = true → p) ∧ (b = false → q)
section
variable {Q : QE} {QL : QA} {QT : QB} {X : QX} {P : PO} {d : D} {ds : List D} {b : Bool} {S : Sto} {c : Str} {e : En} {i n : Nat}
variable {a b' c' : ME} {g g' : Sto → D → D → Option D} {h : Sto → D → Option D} {gl : Sto → List D → Option D} {ma mr : MA} {t u : MB} {sa sb : MS} {m : MF} {tg : MTg} {x y : D}
theorem k_v (h1 : e[i]? = some (some d)) (k : Q d S) : OkE (eV i e S) Q X := by rw [eV_ap, h1]; exact k
theorem k_c (k : Q d S) : OkE (eC d e S) Q X := k
theorem k_2 (k : OkE (a e S) (fun x S1 => OkE (b' e S1) (fun y S2 => OkE (opt (g S2 x y) S2) Q X) X) X) : OkE (e2 g a b' e S) Q X := by
  rw [e2_ap, OkE_bind]; simpa only [OkE_bind] using k
theorem k_1 (k : OkE (a e S) (fun x S1 => OkE (opt (h S1 x) S1) Q X) X) : OkE (e1 h a e S) Q X := by rw [e1_ap, OkE_bind]; exact k
theorem k_opt {o : Option D} (h1 : o = some d) (k : Q d S) : OkE (opt o S) Q X := by rw [h1]; exact k
theorem k_tup (k : OkA (ma e S) (fun xs S1 => xs.length ≤ 16777216 ∧ Q (.tup xs) S1) X) : OkE (eTup ma e S) Q X := by
  rw [eTup_ap, OkA_bind]
  revert k
  cases ma e S with
  | bad => exact _root_.id
  | exc _ _ => exact _root_.id
  | ok ds S1 => exact fun ⟨h1, h2⟩ => by rw [OkA_ok, if_pos h1]; exact h2
theorem k_lst (k : OkA (ma e S) (fun xs S1 => xs.length ≤ 16777216 ∧ Q (.lst xs) S1) X) : OkE (eLst ma e S) Q X := by
  rw [eLst_ap, OkA_bind]
  revert k
  cases ma e S with
  | bad => exact _root_.id
  | exc _ _ => exact _root_.id
  | ok ds S1 => exact fun ⟨h1, h2⟩ => by rw [OkA_ok, if_pos h1]; exact h2
theorem k_new (k : OkA (ma e S) (fun xs S1 => xs.length ≤ 16777216 ∧ Q (.obj S1.length) (S1 ++ [.lst xs])) X) : OkE (eNew ma e S) Q X := by
  rw [eNew_ap, OkA_bind]
  revert k
  cases ma e S with
  | bad => exact _root_.id
  | exc _ _ => exact _root_.id
  | ok ds S1 => exact fun ⟨h1, h2⟩ => by rw [OkA_ok, if_pos h1]; exact h2
theorem k_aN (k : QL [] S) : OkA (aN e S) QL X := k
theorem k_aC (k : OkE (a e S) (fun x S1 => OkA (mr e S1) (fun xs S2 => QL (x :: xs) S2) X) X) : OkA (aC a mr e S) QL X := by
  rw [aC_ap, OkE_bindA]; simpa only [OkA_bindA, OkA_ok] using k
theorem k_B (k : OkA (ma e S) (fun xs S1 => OkE (opt (gl S1 xs) S1) Q X) X) : OkE (eB gl ma e S) Q X := by rw [eB_ap, OkA_bind]; exact k
theorem k_call (k : OkA (ma e S) (fun ds S1 => ds.length = n ∧ OkE (callS m ds S1) Q X) X) : OkE (eCall' n m ma e S) Q X := by
  rw [OkE_eCall]
  revert k
  cases ma e S with
  | bad => exact _root_.id
  | exc _ _ => exact _root_.id
  | ok ds S1 => exact fun ⟨h1, h2⟩ => by rw [OkA_ok, if_pos h1]; exact h2
theorem k_if (k : OkB (t e S) (fun x S1 => Cond x (OkE (a e S1) Q X) (OkE (b' e S1) Q X)) X) : OkE (eIf t a b' e S) Q X := by
  rw [eIf_ap, OkB_bind]
  revert k
  cases t e S with
  | bad => exact _root_.id
  | exc _ _ => exact _root_.id
  | ok x S1 =>
    cases x with
    | true => exact fun k => k.1 rfl
    | false => exact fun k => k.2 rfl
theorem k_no (k : OkE (a e S) (fun x S1 => ∃ z, x = .bl z ∧ Q (.bl (!z)) S1) X) : OkE (eNo a e S) Q X := by
  rw [eNo_ap, OkE_bind]
  revert k
  cases a e S with
  | bad => exact _root_.id
  | exc _ _ => exact _root_.id
  | ok x S1 => exact fun ⟨z, e1, k⟩ => by rw [OkE_ok, e1]; exact k
theorem k_an (k : OkE (a e S) (fun x S1 => ∃ z, x = .bl z ∧ Cond z (OkE (b' e S1) Q X) (Q (.bl false) S1)) X) : OkE (eAn a b' e S) Q X := by
  rw [eAn_ap, OkE_bind]
  revert k
  cases a e S with
  | bad => exact _root_.id
  | exc _ _ => exact _root_.id
  | ok x S1 =>
    rintro ⟨z, e1, k⟩
    rw [OkE_ok, e1]
    cases z with
    | true => exact k.1 rfl
    | false => exact k.2 rfl
theorem k_o (k : OkE (a e S) (fun x S1 => ∃ z, x = .bl z ∧ Cond z (Q (.bl true) S1) (OkE (b' e S1) Q X)) X) : OkE (eO a b' e S) Q X := by
  rw [eO_ap, OkE_bind]
  revert k
  cases a e S with
  | bad => exact _root_.id
  | exc _ _ => exact _root_.id
  | ok x S1 =>
    rintro ⟨z, e1, k⟩
    rw [OkE_ok, e1]
    cases z with
    | true => exact k.1 rfl
    | false => exact k.2 rfl
theorem k_3 (k : OkE (a e S) (fun x S1 => OkE (b' e S1) (fun y S2 => ∃ z, g S2 x y = some (.bl z) ∧ Cond z (OkE (c' e S2) (fun w S3 => OkE (opt (g' S3 y w) S3) Q X) X) (Q (.bl false) S2)) X) X) : OkE (e3 g g' a b' c' e S) Q X := by
  rw [e3_ap, OkE_bind]
  revert k
  cases a e S with
  | bad => exact _root_.id
  | exc _ _ => exact _root_.id
  | ok x S1 =>
    intro k
    rw [OkE_ok] at k ⊢
    rw [OkE_bind]
    revert k
    cases b' e S1 with
    | bad => exact _root_.id
    | exc _ _ => exact _root_.id
    | ok y S2 =>
      rintro ⟨z, e1, k⟩
      rw [OkE_ok, e1]
      cases z with
      | true => simpa only [OkE_bind] using k.1 rfl
      | false => exact k.2 rfl
theorem k_tOf (k : OkE (a e S) (fun x S1 => ∃ z, x = .bl z ∧ QT z S1) X) : OkB (tOf a e S) QT X := by
  rw [tOf_ap, OkE_bindB]
  revert k
  cases a e S with
  | bad => exact _root_.id
  | exc _ _ => exact _root_.id
  | ok x S1 => exact fun ⟨z, e1, k⟩ => by rw [OkE_ok, e1]; exact k
theorem k_tNo (k : OkB (t e S) (fun x S1 => QT (!x) S1) X) : OkB (tNo t e S) QT X := by rw [tNo_ap, OkB_bindB]; exact k
theorem k_tYs (k : QT true S) : OkB (tYs e S) QT X := k
theorem k_tAn (k : OkB (t e S) (fun x S1 => Cond x (OkB (u e S1) QT X) (QT false S1)) X) : OkB (tAn t u e S) QT X := by
  rw [tAn_ap, OkB_bindB]
  revert k
  cases t e S with
  | bad => exact _root_.id
  | exc _ _ => exact _root_.id
  | ok x S1 =>
    cases x with
    | true => exact fun k => k.1 rfl
    | false => exact fun k => k.2 rfl
theorem k_tO (k : OkB (t e S) (fun x S1 => Cond x (QT true S1) (OkB (u e S1) QT X)) X) : OkB (tO t u e S) QT X := by
  rw [tO_ap, OkB_bindB]
  revert k
  cases t e S with
  | bad => exact _root_.id
  | exc _ _ => exact _root_.id
  | ok x S1 =>
    cases x with
    | true => exact fun k => k.1 rfl
    | false => exact fun k => k.2 rfl
/-- a test whose answer is known -/
theorem k_tEq (h1 : t e S = .ok b S) (k : QT b S) : OkB (t e S) QT X := by rw [h1]; exact k
theorem k_sl2 (k : OkE (a e S) (fun x S1 => OkE (b' e S1) (fun i S2 => isPart i = true ∧ OkE (c' e S2) (fun j S3 => isPart j = true ∧ OkE (opt (gSl (part i) (part j) S3 x) S3) Q X) X) X) X) : OkE (eSl2 a b' c' e S) Q X := by
  rw [eSl2_ap, OkE_bind]
  refine k.imp fun x S1 k => ?_
  rw [OkE_bind]
  refine k.imp fun i S2 ⟨h1, k⟩ => ?_
  rw [if_pos h1, OkE_bind]
  refine k.imp fun j S3 ⟨h2, k⟩ => ?_
  rw [if_pos h2]; exact k
theorem k_slL (k : OkE (a e S) (fun x S1 => OkE (b' e S1) (fun i S2 => isPart i = true ∧ OkE (opt (gSl (part i) none S2 x) S2) Q X) X) X) : OkE (eSlL a b' e S) Q X := by
  rw [eSlL_ap, OkE_bind]
  refine k.imp fun x S1 k => ?_
  rw [OkE_bind]
  refine k.imp fun i S2 ⟨h1, k⟩ => ?_
  rw [if_pos h1]; exact k
theorem k_slH (k : OkE (a e S) (fun x S1 => OkE (b' e S1) (fun i S2 => isPart i = true ∧ OkE (opt (gSl none (part i) S2 x) S2) Q X) X) X) : OkE (eSlH a b' e S) Q X := by
  rw [eSlH_ap, OkE_bind]
  refine k.imp fun x S1 k => ?_
  rw [OkE_bind]
  refine k.imp fun i S2 ⟨h1, k⟩ => ?_
  rw [if_pos h1]; exact k
theorem k_app (k : OkE (a e S) (fun o S1 => isL S1 o = true ∧ OkE (b' e S1) (fun d S2 => OkE (appI S2 o d) Q X) X) X) : OkE (eApp a b' e S) Q X := by
  rw [eApp_ap, OkE_bind]
  refine k.imp fun x S1 ⟨h1, k⟩ => ?_
  rw [if_pos h1, OkE_bind]
  exact k
theorem k_ext (k : OkE (a e S) (fun o S1 => isL S1 o = true ∧ OkE (b' e S1) (fun d S2 => OkE (extI S2 o d) Q X) X) X) : OkE (eExt a b' e S) Q X := by
  unfold eExt
  rw [OkE_bind]
  refine k.imp fun x S1 ⟨h1, k⟩ => ?_
  rw [if_pos h1, OkE_bind]
  exact k
theorem k_appI {ds : List D} (h1 : S[n]? = some (.lst ds)) (h2 : ds.length < 16777216) (k : Q .non (S.set n (.lst (ds ++ [d])))) : OkE (appI S (.obj n) d) Q X := by
  unfold appI; simp only [h1]; rw [if_pos h2]; exact k
theorem k_extI {ds zs : List D} (h1 : S[n]? = some (.lst ds)) (h3 : view S d = .lst zs) (h4 : noS d = true) (h2 : ds.length + zs.length ≤ 16777216) (k : Q .non (S.set n (.lst (ds ++ zs)))) : OkE (extI S (.obj n) d) Q X := by
  unfold extI; simp only [h1, h3]; rw [if_pos ⟨h2, h4⟩]; exact k
theorem k_isL {ds : List D} (h1 : S[n]? = some (.lst ds)) : isL S (.obj n) = true := by unfold isL; simp only [h1]
theorem k_bk {mk : MA} {gk : Sto → List D → List D → Option D} (k : OkA (ma e S) (fun ds S1 => OkA (mk e S1) (fun zs S2 => OkE (opt (gk S2 ds zs) S2) Q X) X) X) : OkE (eBK gk ma mk e S) Q X := by
  unfold eBK
  rw [OkA_bind]; simpa only [OkA_bind] using k
/-! ### statements -/
theorem k_pass (k : P.nx e S) : OkS (sPass e S) P := k
theorem k_seq (k : OkS (sa e S) ⟨fun e S => OkS (sb e S) P, P.rt, P.bk, P.ct, P.ex⟩) : OkS (sSeq sa sb e S) P := by rw [sSeq_ap, OkS_bind]; exact k
theorem k_set (k : OkE (a e S) (fun d S1 => P.nx (e.set i (some d)) S1) (fun c S => P.ex c e S)) : OkS (sSet i a e S) P := by rw [sSet_ap, OkE_bindS]; exact k
theorem k_ex (k : OkE (a e S) (fun _ S1 => P.nx e S1) (fun c S => P.ex c e S)) : OkS (sEx a e S) P := by rw [sEx_ap, OkE_bindS]; exact k
theorem k_ret (k : OkE (a e S) P.rt (fun c S => P.ex c e S)) : OkS (sRet a e S) P := by rw [sRet_ap, OkE_bindS]; exact k
theorem k_retN (k : P.rt .non S) : OkS (sRetN e S) P := k
theorem k_sIf (k : OkB (t e S) (fun x S1 => Cond x (OkS (sa e S1) P) (OkS (sb e S1) P)) (fun c S => P.ex c e S)) : OkS (sIf t sa sb e S) P := by
  rw [sIf_ap, OkB_bindS]
  revert k
  cases t e S with
  | bad => exact _root_.id
  | exc _ _ => exact _root_.id
  | ok x S1 =>
    cases x with
    | true => exact fun k => k.1 rfl
    | false => exact fun k => k.2 rfl
theorem k_brk (k : P.bk e S) : OkS (sBrk e S) P := k
theorem k_cont (k : P.ct e S) : OkS (sCont e S) P := k
theorem k_asg (k : OkE (a e S) (fun d S1 => ∃ e', tg d e = some e' ∧ P.nx e' S1) (fun c S => P.ex c e S)) : OkS (sAsg tg a e S) P := by
  rw [sAsg_ap, OkE_bindS]
  refine k.imp fun d S1 ⟨e', h1, k⟩ => ?_
  rw [h1]; exact k
theorem k_setI (k : OkE (c' e S) (fun d S1 => OkE (a e S1) (fun o S2 => OkE (b' e S2) (fun i S3 => OkS (putI S3 e o i d) P) (fun c S => P.ex c e S)) (fun c S => P.ex c e S)) (fun c S => P.ex c e S)) : OkS (sSetI a b' c' e S) P := by
  rw [sSetI_ap, OkE_bindS]; simpa only [OkE_bindS] using k
theorem k_putI {ds : List D} {j : Int} {k' : Nat} (h1 : S[n]? = some (.lst ds)) (h2 : ixN ds.length j = some k') (k : P.nx e (S.set n (.lst (ds.set k' d)))) : OkS (putI S e (.obj n) (.int j) d) P := by
  unfold putI; simp only [h1, h2]; exact k
theorem k_aug (h1 : e[i]? = some (some x)) (k : OkE (a e S) (fun y S1 => ∃ d, g S1 x y = some d ∧ P.nx (e.set i (some d)) S1) (fun c S => P.ex c e S)) : OkS (sAug i g a e S) P := by
  rw [sAug_ap, h1]
  simp only [OkE_bindS]
  refine k.imp fun y S1 ⟨d, h2, k⟩ => ?_
  rw [h2]; exact k
theorem k_for (k : OkE (a e S) (fun d S1 => ∃ ds, items S1 d = some ds ∧ OkS (forD (fun S' => view S' d = view S1 d) tg sa ds e S1) P) (fun c S => P.ex c e S)) : OkS (sFor a tg sa e S) P := by
  rw [OkS_sFor]
  refine k.imp fun d S1 ⟨ds, h1, k⟩ => ?_
  rw [h1]; exact k
theorem k_forR (k : OkE (a e S) (fun d S1 => ∃ n, d = .int n ∧ (-(2 ^ 62) ≤ n ∧ n < 2 ^ 62) ∧ OkS (forD (fun _ => True) tg sa (rng 0 n.toNat) e S1) P) (fun c S => P.ex c e S)) : OkS (sForR a tg sa e S) P := by
  rw [OkS_sForR]
  refine k.imp fun d S1 ⟨n, h1, h2, k⟩ => ?_
  rw [h1]
  simp only
  rw [if_pos h2]; exact k
theorem k_forG (k : OkA (ma e S) (fun d S1 => ∃ lo n, rgs d = some (lo, n) ∧ OkS (forD (fun _ => True) tg sa (rng lo n) e S1) P) (fun c S => P.ex c e S)) : OkS (sForG ma tg sa e S) P := by
  rw [OkS_sForG]
  revert k
  cases ma e S with
  | bad => exact _root_.id
  | exc _ _ => exact _root_.id
  | ok ds S1 => exact fun ⟨lo, n, h1, k⟩ => by rw [OkA_ok, h1]; exact k
theorem k_lc {own : List Nat} (k : OkE (a e S) (fun d S1 => ∃ ds, items S1 d = some ds ∧ OkE (lcD (fun S' => view S' d = view S1 d) tg t b' (wipeE e own) ds [] S1) Q X) X) : OkE (eLc a tg t b' own e S) Q X := by
  rw [OkE_eLc]
  refine k.imp fun d S1 ⟨ds, h1, k⟩ => ?_
  rw [h1]; exact k
theorem k_lcG {own : List Nat} (k : OkA (ma e S) (fun d S1 => ∃ lo n, rgs d = some (lo, n) ∧ OkE (lcD (fun _ => True) tg t b' (wipeE e own) (rng lo n) [] S1) Q X) X) : OkE (eLcG ma tg t b' own e S) Q X := by
  rw [OkE_eLcG]
  revert k
  cases ma e S with
  | bad => exact _root_.id
  | exc _ _ => exact _root_.id
  | ok ds S1 => exact fun ⟨lo, n, h1, k⟩ => by rw [OkA_ok, h1]; exact k
theorem k_gc {kill : List Nat} (k : OkS (sa e S) ⟨fun e' S' => (lowE S.length (wipeE e' kill) = true ∧ (S'.take S.length).all (lowC S.length) = true) ∧ P.nx (wipeE e' kill) (S'.take S.length), P.rt, P.bk, fun e' S' => (lowE S.length (wipeE e' kill) = true ∧ (S'.take S.length).all (lowC S.length) = true) ∧ P.ct (wipeE e' kill) (S'.take S.length), P.ex⟩) : OkS (sGC kill sa e S) P := by
  unfold sGC
  revert k
  cases sa e S with
  | nx e' S' => exact fun ⟨h1, h2⟩ => by simp only [gcS]; rw [if_pos (by rw [h1.1, h1.2]; rfl)]; exact h2
  | cont e' S' => exact fun ⟨h1, h2⟩ => by simp only [gcS]; rw [if_pos (by rw [h1.1, h1.2]; rfl)]; exact h2
  | _ => exact fun k => k
theorem k_condT {p q : Prop} (h1 : b = true) (k : p) : Cond b p q := ⟨fun _ => k, fun z => by rw [h1] at z; cases z⟩
theorem k_condF {p q : Prop} (h1 : b = false) (k : q) : Cond b p q := ⟨fun z => (by rw [h1] at z; cases z), fun _ => k⟩
theorem k_dec {p q c : Prop} [Decidable c] (k1 : c → p) (k2 : ¬ c → q) : Cond (decide c) p q := ⟨fun z => k1 (of_decide_eq_true z), fun z => k2 (of_decide_eq_false z)⟩
theorem k_ndec {p q c : Prop} [Decidable c] (k1 : ¬ c → p) (k2 : c → q) : Cond (!decide c) p q := ⟨fun z => k1 (by simpa using z), fun z => k2 (by simpa using z)⟩
/-- both sides are told -/
theorem k_anB (k : OkE (a e S) (fun x S1 => ∃ z, x = .bl z ∧ OkE (b' e S1) (fun y S2 => S2 = S1 ∧ ∃ w, y = .bl w ∧ Q (.bl (z && w)) S1) noX) X) : OkE (eAn a b' e S) Q X := by
  refine k_an (k.imp fun x S1 ⟨z, h1, k⟩ => ⟨z, h1, fun hz => ?_, fun hz => ?_⟩)
  · subst hz
    obtain ⟨y, S2, h2, rfl, w, rfl, q⟩ := k.eq
    rw [h2]; exact q
  · subst hz
    obtain ⟨y, S2, h2, rfl, w, rfl, q⟩ := k.eq
    exact q
theorem k_oB (k : OkE (a e S) (fun x S1 => ∃ z, x = .bl z ∧ OkE (b' e S1) (fun y S2 => S2 = S1 ∧ ∃ w, y = .bl w ∧ Q (.bl (z || w)) S1) noX) X) : OkE (eO a b' e S) Q X := by
  refine k_o (k.imp fun x S1 ⟨z, h1, k⟩ => ⟨z, h1, fun hz => ?_, fun hz => ?_⟩)
  · subst hz
    obtain ⟨y, S2, h2, rfl, w, rfl, q⟩ := k.eq
    exact q
  · subst hz
    obtain ⟨y, S2, h2, rfl, w, rfl, q⟩ := k.eq
    rw [h2]; exact q
theorem OkB.eq {r : RB} {QT : QB} (h : OkB r QT noX) : ∃ d S, r = .ok d S ∧ QT d S := by
  cases r with
  | ok d S => exact ⟨d, S, rfl, h⟩
  | exc c S => exact h.elim
  | bad => exact h.elim
theorem OkB.imp {r : RB} {QT' : QB} (h : OkB r QT X) (k : ∀ d S, QT d S → QT' d S) : OkB r QT' X := by
  cases r with
  | ok d S => exact k _ _ h
  | exc c S => exact h
  | bad => exact h
theorem k_tAnB (k : OkB (t e S) (fun z S1 => OkB (u e S1) (fun w S2 => S2 = S1 ∧ QT (z && w) S1) noX) X) : OkB (tAn t u e S) QT X := by
  refine k_tAn (k.imp fun z S1 k => ⟨fun hz => ?_, fun hz => ?_⟩)
  · subst hz
    obtain ⟨w, S2, h2, rfl, q⟩ := k.eq
    rw [h2]; exact q
  · subst hz
    obtain ⟨w, S2, h2, rfl, q⟩ := k.eq
    exact q
theorem k_tOB (k : OkB (t e S) (fun z S1 => OkB (u e S1) (fun w S2 => S2 = S1 ∧ QT (z || w) S1) noX) X) : OkB (tO t u e S) QT X := by
  refine k_tO (k.imp fun z S1 k => ⟨fun hz => ?_, fun hz => ?_⟩)
  · subst hz
    obtain ⟨w, S2, h2, rfl, q⟩ := k.eq
    exact q
  · subst hz
    obtain ⟨w, S2, h2, rfl, q⟩ := k.eq
    rw [h2]; exact q
theorem k_3B (k : OkE (a e S) (fun x S1 => OkE (b' e S1) (fun y S2 => ∃ z, g S2 x y = some (.bl z) ∧ OkE (c' e S2) (fun w S3 => S3 = S2 ∧ ∃ z', g' S2 y w = some (.bl z') ∧ Q (.bl (z && z')) S2) noX) X) X) : OkE (e3 g g' a b' c' e S) Q X := by
  refine k_3 (k.imp fun x S1 k => k.imp fun y S2 ⟨z, h1, k⟩ => ⟨z, h1, fun hz => ?_, fun hz => ?_⟩)
  · subst hz
    obtain ⟨w, S3, h2, rfl, z', h3, q⟩ := k.eq
    rw [h2, OkE_ok, h3]; exact q
  · subst hz
    obtain ⟨w, S3, h2, rfl, z', h3, q⟩ := k.eq
    exact q
/-- a comprehension that changes nothing -/
theorem k_lcMap {own : List Nat} {f : D → D} (k : OkE (a e S) (fun d S1 => ∃ ds, items S1 d = some ds ∧ ds.length ≤ 16777216 ∧ (∀ z ∈ ds, ∃ e1, tg z (wipeE e own) = some e1 ∧ OkE (b' e1 S1) (fun r S' => S' = S1 ∧ r = f z) noX) ∧ Q (.lst (ds.map f)) S1) X) : OkE (eLc a tg tYs b' own e S) Q X := by
  refine k_lc (k.imp fun d S1 ⟨ds, h1, h2, h3, h4⟩ => ⟨ds, h1, ?_⟩)
  rw [lcD_map (f := f) (C := fun S' => view S' d = view S1 d) rfl ds [] (fun z hz => ?_) (by simpa using h2)]
  · simpa using h4
  · obtain ⟨e1, h5, h6⟩ := h3 z hz
    obtain ⟨r, S', h7, rfl, rfl⟩ := h6.eq
    exact ⟨e1, h5, h7⟩
/-! ### functions -/
theorem k_fnK {N : Nat} {body : MS} (k : OkS (body (ds.map some ++ List.replicate (N - ds.length) none) S) ⟨fun _ S' => Q .non S', Q, fun _ _ => False, fun _ _ => False, fun c _ S' => X c S'⟩) : OkE (fnK N body ds S) Q X := by rw [OkE_fnK]; exact k
theorem k_fnD {N : Nat} {body : MS} (k : OkS (body (ds.map some ++ List.replicate (N - ds.length) none) S) ⟨fun _ S' => (S'.take S.length).all (lowC S.length) = true ∧ Q .non (S'.take S.length), fun d S' => (low S.length (still S.length S' d) = true ∧ (S'.take S.length).all (lowC S.length) = true) ∧ Q (still S.length S' d) (S'.take S.length), fun _ _ => False, fun _ _ => False, fun c _ S' => (S'.take S.length).all (lowC S.length) = true ∧ X c (S'.take S.length)⟩) : OkE (fnD N body ds S) Q X := by
  rw [OkE_fnD, OkE_fnK]
  exact k.imp (fun e S h => ⟨⟨rfl, h.1⟩, h.2⟩) (fun _ _ h => h) (fun _ _ h => h) (fun _ _ h => h) (fun _ _ _ h => h)
/-- a function of no cell that hands back none -/
theorem k_fn0 {N : Nat} {body : MS} (k : OkS (body (ds.map some ++ List.replicate (N - ds.length) none) []) ⟨fun _ S' => Q .non [], fun d S' => cl d = true ∧ Q d [], fun _ _ => False, fun _ _ => False, fun c _ S' => X c []⟩) : OkE (fnD N body ds []) Q X := by
  refine k_fnD (k.imp (fun e S h => ⟨by simp, by simpa using h⟩) (fun d S h => ?_) (fun _ _ h => h) (fun _ _ h => h) (fun _ _ S h => ⟨by simp, by simpa using h⟩))
  obtain ⟨h1, h2⟩ := h
  have hs : still 0 S d = d := by cases d <;> first | rfl | cases h1
  simp only [List.length_nil, List.take_zero, hs]
  exact ⟨⟨OkE_fn0.clow d h1, rfl⟩, h2⟩
theorem k_exe {α : Sort _} {p q : α → Prop} {w : α} (h1 : p w) (k : q w) : ∃ z, p z ∧ q z := ⟨w, h1, k⟩
theorem at_lt {α : Type} {xs : List α} {i : Int} (h0 : 0 ≤ i) (h1 : i < xs.length) : ∃ j, atI xs i = some j ∧ j ∈ xs := by
  obtain ⟨k, rfl⟩ := Int.eq_ofNat_of_zero_le h0
  have hk : k < xs.length := by omega
  refine ⟨xs[k], ?_, List.getElem_mem hk⟩
  have : ixN xs.length (k : Int) = some k := by
    unfold ixN
    simp
    omega
  unfold atI
  rw [this]
  simp [hk]
/-! ### operators -/
theorem k_addI {i j : Int} (k : Q (.int (i + j)) S) : OkE (opt (gAdd S (.int i) (.int j)) S) Q X := k
theorem k_addS {i j : Str} (h1 : i.length + j.length ≤ 16777216) (k : Q (.str (i ++ j)) S) : OkE (opt (gAdd S (.str i) (.str j)) S) Q X := by rw [gAdd_str h1]; exact k
theorem k_subI {i j : Int} (k : Q (.int (i - j)) S) : OkE (opt (gSub S (.int i) (.int j)) S) Q X := k
theorem k_eqI {i j : Int} (k : Q (.bl (decide (i = j))) S) : OkE (opt (gEq S (.int i) (.int j)) S) Q X := by rw [gEq_int]; exact k
theorem k_neI {i j : Int} (k : Q (.bl (!decide (i = j))) S) : OkE (opt (gNe S (.int i) (.int j)) S) Q X := by rw [gNe_int]; exact k
theorem k_ltI {i j : Int} (k : Q (.bl (decide (i < j))) S) : OkE (opt (gLt S (.int i) (.int j)) S) Q X := k
theorem k_leI {i j : Int} (k : Q (.bl (decide (i ≤ j))) S) : OkE (opt (gLe S (.int i) (.int j)) S) Q X := k
theorem k_gtI {i j : Int} (k : Q (.bl (decide (j < i))) S) : OkE (opt (gI iGt S (.int i) (.int j)) S) Q X := k
theorem k_geI {i j : Int} (k : Q (.bl (decide (j ≤ i))) S) : OkE (opt (gI iGe S (.int i) (.int j)) S) Q X := k
theorem k_eqS {i j : Str} (k : Q (.bl (decide (i = j))) S) : OkE (opt (gEq S (.str i) (.str j)) S) Q X := by rw [gEq_str]; exact k
theorem k_neS {i j : Str} (k : Q (.bl (!decide (i = j))) S) : OkE (opt (gNe S (.str i) (.str j)) S) Q X := by rw [gNe_str]; exact k
theorem k_mod {i j : Int} (h1 : 0 < j) (k : Q (.int (i % j)) S) : OkE (opt (gMod S (.int i) (.int j)) S) Q X := by rw [gMod_int h1]; exact k
theorem k_fdiv {i j : Int} (h1 : 0 < j) (h2 : j < 1073741824) (k : Q (.int (i / j)) S) : OkE (opt (gFdiv S (.int i) (.int j)) S) Q X := by rw [gFdiv_int h1 h2]; exact k
theorem k_mulI {i j : Int} (h1 : (-18446744073709551616 < i ∧ i < 18446744073709551616) ∨ (-18446744073709551616 < j ∧ j < 18446744073709551616)) (k : Q (.int (i * j)) S) : OkE (opt (gMul S (.int i) (.int j)) S) Q X := by rw [gMul_int h1]; exact k
theorem k_lenS {z : Str} (h1 : z.length ≤ 16777216) (k : Q (.int z.length) S) : OkE (opt (gLen S [.str z]) S) Q X := by rw [gLen_str h1]; exact k
theorem k_lenT (k : Q (.int ds.length) S) : OkE (opt (gLen S [.tup ds]) S) Q X := k
theorem k_lenL (k : Q (.int ds.length) S) : OkE (opt (gLen S [.lst ds]) S) Q X := k
theorem k_lenC (k : Q (.int ds.length) S) : OkE (opt (gLen S [.scr ds]) S) Q X := k
theorem k_ixS {z : Str} {i : Int} {j : Nat} (h1 : z.length ≤ 16777216) (h2 : atI z.cps.toList i = some j) (k : Q (.str ⟨#[j]⟩) S) : OkE (opt (gIx S (.str z) (.int i)) S) Q X := by rw [gIx_str h1, h2]; exact k
theorem k_ixT {i : Int} (h2 : atI ds i = some d) (k : Q d S) : OkE (opt (gIx S (.tup ds) (.int i)) S) Q X := by
  have : gIx S (.tup ds) (.int i) = some d := h2
  rw [this]; exact k
theorem k_ixL {i : Int} (h2 : atI ds i = some d) (k : Q d S) : OkE (opt (gIx S (.lst ds) (.int i)) S) Q X := by
  have : gIx S (.lst ds) (.int i) = some d := h2
  rw [this]; exact k
theorem k_ixO {i : Int} (h1 : S[n]? = some (.lst ds)) (h2 : atI ds i = some d) (k : Q d S) : OkE (opt (gIx S (.obj n) (.int i)) S) Q X := by
  have : gIx S (.obj n) (.int i) = some d := by unfold gIx view; simp only [h1]; exact h2
  rw [this]; exact k
theorem k_lenO (h1 : S[n]? = some (.lst ds)) (k : Q (.int ds.length) S) : OkE (opt (gLen S [.obj n]) S) Q X := by
  have : gLen S [.obj n] = some (.int ds.length) := by unfold gLen view; simp only [h1]
  rw [this]; exact k
theorem k_isi {n t : String} (h1 : tyN S d = some t) (k : Q (.bl (isi n t)) S) : OkE (opt (gIsi n S d) S) Q X := by unfold gIsi; rw [h1]; exact k
theorem k_is {z : Bool} (h1 : dis x y = some z) (k : Q (.bl z) S) : OkE (opt (gIs S x y) S) Q X := by unfold gIs; rw [h1]; exact k
theorem k_isn {z : Bool} (h1 : dis x y = some z) (k : Q (.bl (!z)) S) : OkE (opt (gIsn S x y) S) Q X := by unfold gIsn; rw [h1]; exact k
theorem k_slS {lo hi : Option Int} {z : Str} (h1 : z.length ≤ 16777216) (k : Q (.str (cutS z lo hi)) S) : OkE (opt (gSl lo hi S (.str z)) S) Q X := by rw [gSl_str h1]; exact k
theorem k_tupT (k : Q (.tup ds) S) : OkE (opt (gTuple S [.tup ds]) S) Q X := k
theorem k_tupL (k : Q (.tup ds) S) : OkE (opt (gTuple S [.lst ds]) S) Q X := k
theorem k_tupO (h1 : S[n]? = some (.lst ds)) (k : Q (.tup ds) S) : OkE (opt (gTuple S [.obj n]) S) Q X := by
  have : gTuple S [.obj n] = some (.tup ds) := by unfold gTuple view; simp only [h1]
  rw [this]; exact k
theorem k_lstL (k : Q (.lst ds) S) : OkE (opt (gList S [.lst ds]) S) Q X := k
theorem k_lstC (k : Q (.lst ds) S) : OkE (opt (gList S [.scr ds]) S) Q X := k
theorem k_lstT (k : Q (.lst ds) S) : OkE (opt (gList S [.tup ds]) S) Q X := k
end
end DL

/-! a < b of tuples whose first unlike places can be compared -/
namespace PySem.SeqAt
open AutoSeq1 (wpAny_loadPart')
open MeetsSeq MeetsSeq2 MeetsSeq3 SeqRoads2
theorem tupLt_first (a b : Addr) (us vs : Array Value) (n m : Nat) (d1 d2 : Option Addr) (s1 s2 : Array (Option Value)) (e r : Nat → Bool) :
    Meets (Builtin.«tuple.__lt__» ⟨[.ref a, .ref b], []⟩)
      (fun A R s => (s.heap.get? a = some { cls := .type "tuple", dict := d1, data := .seq us n, slots := s1 } ∧ s.heap.get? b = some { cls := .type "tuple", dict := d2, data := .seq vs m, slots := s2 }) ∧
        (∀ j (hj : j < us.size) (hk : j < vs.size), EqAt A.in1 s us[j] vs[j] (e j)) ∧ (∀ j (hj : j < us.size) (hk : j < vs.size), (∀ i, i < j → e i = true) → e j = false → RcLt A.in1 s us[j] vs[j] (r j)) ∧
        R (.ok (.ret (.bool (firstLt e r (decide (us.size < vs.size)) (List.range (min us.size vs.size)))))) s) :=
  .of_wp fun prog w A R s hyp => by
    obtain ⟨hp, g, d, tk, os⟩ := s
    obtain ⟨⟨at1, at2⟩, eqs, lts, goal⟩ := hyp
    have sub := AutoSeq1.sub_tuple_tuple
    have both : (us.toList.zip vs.toList).length = min us.size vs.size := by simp
    wp_walk using wpAny_loadPart' at1, wpAny_loadPart' at2, wpAny_forIn_list _ (fun todo st s' => st.1 = none ∧ s' = ⟨hp, g, d, tk, os⟩ ∧ ∃ i, todo = (us.toList.zip vs.toList).drop i ∧ (∀ k, k < i → e k = true) ∧
      R (.ok (.ret (.bool (firstLt e r (decide (us.size < vs.size)) ((List.range (min us.size vs.size)).drop i))))) ⟨hp, g, d, tk, os⟩) _
    case turn =>
      rintro ⟨y, x⟩ todo st s' ⟨hst, rfl, i, hz, seen, now⟩
      have here : i < (us.toList.zip vs.toList).length := by
        apply Nat.lt_of_not_le
        intro z
        rw [List.drop_of_length_le z] at hz; cases hz
      have hm : i < min us.size vs.size := both ▸ here
      have j1 : i < us.size := by omega
      have j2 : i < vs.size := by omega
      rw [List.drop_eq_getElem_cons here] at hz
      injection hz with pair more
      obtain rfl : y = us[i] := by simpa using congrArg Prod.fst pair
      obtain rfl : x = vs[i] := by simpa using congrArg Prod.snd pair
      rw [show (List.range (min us.size vs.size)).drop i = i :: (List.range (min us.size vs.size)).drop (i + 1) by simp [List.drop_eq_getElem_cons, hm]] at now
      refine wpAny_bind (eqs i j1 j2 prog w _ _ ?_)
      by_cases he : e i = true
      · rw [firstLt_yes he] at now
        rw [he]
        wp_walk
        refine ⟨rfl, rfl, i + 1, more, fun k hk => ?_, now⟩
        by_cases hki : k = i
        · rw [hki]; exact he
        · exact seen k (by omega)
      · have he : e i = false := by simpa using he
        rw [firstLt_no he] at now
        rw [he]
        have less := lts i j1 j2 seen he prog w
        generalize richCompare .Lt us[i] vs[i] = rc at less ⊢
        wp_walk
        refine less _ _ ?_
        wp_walk
        exact ⟨_, rfl, now⟩
    case fin =>
      rintro ⟨b1, b2⟩ s' ⟨hst, rfl, i, hz, seen, now⟩
      simp only at hst
      subst hst
      have over : min us.size vs.size ≤ i := by
        apply Nat.le_of_not_lt
        intro z
        rw [List.drop_eq_getElem_cons (both ▸ z)] at hz; cases hz
      rw [List.drop_of_length_le (by simpa using over)] at now
      wp_walk
      exact ⟨_, rfl, by simpa [Builtin.Tuple.tupleCompareSizes, firstLt] using now⟩
    case h =>
      exact ⟨rfl, rfl, 0, rfl, fun k hk => absurd hk (Nat.not_lt_zero k), by simpa using goal⟩
theorem rcLt_first {A : Around} {s : Shared} {a b : Addr} {us vs : Array Value} {e r : Nat → Bool} (h1 : s.heap.IsTuple a us) (h2 : s.heap.IsTuple b vs) (hu : A.units < cLine)
    (eqs : ∀ j (hj : j < us.size) (hk : j < vs.size), EqAt A.in1 s us[j] vs[j] (e j)) (lts : ∀ j (hj : j < us.size) (hk : j < vs.size), (∀ i, i < j → e i = true) → e j = false → RcLt A.in1 s us[j] vs[j] (r j)) :
    RcLt A s (.ref a) (.ref b) (firstLt e r (decide (us.size < vs.size)) (List.range (min us.size vs.size))) := fun prog w E Q q => by
  obtain ⟨⟨c1, e1, t1, l1⟩, g1, k1, n1, q1⟩ := id h1
  obtain ⟨⟨c2, e2, t2, l2⟩, g2, k2, n2, q2⟩ := id h2
  simp only at k1 q1 k2 q2
  subst k1 q1 k2 q2
  exact richCompare_meets_room (op := .Lt) ⟨_, g1, rfl⟩ ⟨_, g2, rfl⟩ F.slot_tuple_lt F.entry_tuple_lt (F.args_tuple_lt_2 _ _) (tupLt_first a b us vs n1 n2 e1 e2 l1 l2 e r)
    ⟨⟨g1, g2⟩, eqs, lts, show Value.bool _ ≠ Value.notImplemented ∧ Q (.bool _) s from ⟨(fun z => nomatch z), q⟩⟩ hu
end PySem.SeqAt
namespace DL
open PySem PySem.Spec PyProof.Rows L2 PySem.SeqAt
mutual
def plt : PyData → PyData → Option Bool
  | .int i, .int j => some (decide (i < j))
  | .str x, .str y => some (decide (x.cps.toList < y.cps.toList))
  | .tuple xs, .tuple ys => pltA xs ys
  | _, _ => none
def pltA : List PyData → List PyData → Option Bool
  | [], [] => some false
  | [], _ :: _ => some true
  | _ :: _, [] => some false
  | x :: xs, y :: ys => if PyData.eqv x y = true then pltA xs ys else plt x y
end
def eAt (xs ys : List PyData) (j : Nat) : Bool := PyData.eqv (xs.getD j .none) (ys.getD j .none)
def rAt (xs ys : List PyData) (j : Nat) : Bool := (plt (xs.getD j .none) (ys.getD j .none)).getD false
theorem pltA_first : ∀ (xs ys : List PyData) (k : Bool), pltA xs ys = some k → firstLt (eAt xs ys) (rAt xs ys) (decide (xs.length < ys.length)) (List.range (min xs.length ys.length)) = k
  | [], [], k, h => by rw [pltA] at h; cases h; simp [firstLt]
  | [], _ :: _, k, h => by rw [pltA] at h; cases h; simp [firstLt]
  | _ :: _, [], k, h => by rw [pltA] at h; cases h; simp [firstLt]
  | x :: xs, y :: ys, k, h => by
    rw [pltA] at h
    rw [List.length_cons, List.length_cons, show min (xs.length + 1) (ys.length + 1) = min xs.length ys.length + 1 by omega, List.range_succ_eq_map]
    by_cases e : PyData.eqv x y = true
    · rw [if_pos e] at h
      rw [firstLt_yes (by exact e), PySem.W.firstLt_map, ← pltA_first xs ys k h]
      have : decide (xs.length + 1 < ys.length + 1) = decide (xs.length < ys.length) := by simp
      rw [this]
      rfl
    · rw [if_neg e] at h
      have e' : PyData.eqv x y = false := by simpa using e
      rw [firstLt_no (show eAt (x :: xs) (y :: ys) 0 = false from e')]
      show (plt x y).getD false = k
      rw [h]; rfl
theorem pltA_at : ∀ (xs ys : List PyData) (k : Bool) (j : Nat), pltA xs ys = some k → j < xs.length → j < ys.length → (∀ i, i < j → eAt xs ys i = true) → eAt xs ys j = false → plt (xs.getD j .none) (ys.getD j .none) = some (rAt xs ys j)
  | [], ys, k, j, _, h1, _, _, _ => absurd h1 (Nat.not_lt_zero _)
  | _ :: _, [], k, j, _, _, h2, _, _ => absurd h2 (Nat.not_lt_zero _)
  | x :: xs, y :: ys, k, 0, h, _, _, _, he => by
    have he : PyData.eqv x y = false := he
    rw [pltA, if_neg (by rw [he]; decide)] at h
    show plt x y = some ((plt x y).getD false)
    rw [h]; rfl
  | x :: xs, y :: ys, k, j + 1, h, h1, h2, hall, he => by
    have h0 : PyData.eqv x y = true := hall 0 (Nat.succ_pos _)
    rw [pltA, if_pos h0] at h
    exact pltA_at xs ys k j h (Nat.lt_of_succ_lt_succ h1) (Nat.lt_of_succ_lt_succ h2) (fun i hi => hall (i + 1) (Nat.succ_lt_succ hi)) he
theorem readsAll_at {h : Heap} : ∀ {vs : List Value} {xs : List PyData} {as : List Addr} (j : Nat), ReadsAll h vs xs as → (hj : j < vs.length) → ∃ bs, Reads h vs[j] (xs.getD j .none) bs ∧ xs.getD j .none ∈ xs
  | _, _, _, _, .nil, hj => absurd hj (Nat.not_lt_zero _)
  | _, _, _, 0, .cons r _, _ => ⟨_, r, List.mem_cons_self⟩
  | _, _, _, j + 1, .cons _ rs, hj => let ⟨bs, h1, h2⟩ := readsAll_at j rs (Nat.lt_of_succ_lt_succ hj); ⟨bs, h1, List.mem_cons_of_mem _ h2⟩
theorem depth_mem : ∀ {xs : List PyData} {x : PyData}, x ∈ xs → x.depth ≤ PyData.depthAll xs
  | _ :: _, _, .head _ => by rw [PyData.depthAll]; omega
  | _ :: _, _, .tail _ h => by have := depth_mem h; rw [PyData.depthAll]; omega
theorem canLay_mem : ∀ {xs : List PyData} {x : PyData}, x ∈ xs → PyData.canLayAll0 xs = true → x.canLay0 = true
  | _ :: _, _, .head _, h => by rw [PyData.canLayAll0, Bool.and_eq_true] at h; exact h.1
  | _ :: _, _, .tail _ m, h => by rw [PyData.canLayAll0, Bool.and_eq_true] at h; exact canLay_mem m h.2
theorem rc_plt (n : Nat) : ∀ (x y : PyData) (A : Around) (s : Shared) (a b : Value) (as bs : List Addr) (k : Bool), x.depth ≤ n → Reads s.heap a x as → Reads s.heap b y bs → x.canLay0 = true → y.canLay0 = true → plt x y = some k → A.units + n < cLine → RcLt A s a b k := by
  induction n with
  | zero =>
    intro x y A s a b as bs k hd ra rb hx hy h hu
    cases x with
    | int i =>
      cases y with
      | int j =>
        cases ra
        cases rb
        rw [plt] at h
        cases h
        exact fun prog w E Q q => P.lt_int q
      | _ => simp [plt] at h
    | str i =>
      cases y with
      | str j =>
        cases ra
        cases rb
        rw [plt] at h
        cases h
        exact fun prog w E Q q => P.lt_str q
      | _ => simp [plt] at h
    | tuple xs => simp only [PyData.depth] at hd; omega
    | _ => simp [plt] at h
  | succ n ih =>
    intro x y A s a b as bs k hd ra rb hx hy h hu
    cases x with
    | int i =>
      cases y with
      | int j =>
        cases ra
        cases rb
        rw [plt] at h
        cases h
        exact fun prog w E Q q => P.lt_int q
      | _ => simp [plt] at h
    | str i =>
      cases y with
      | str j =>
        cases ra
        cases rb
        rw [plt] at h
        cases h
        exact fun prog w E Q q => P.lt_str q
      | _ => simp [plt] at h
    | tuple xs =>
      cases y with
      | tuple ys =>
        rw [plt] at h
        simp only [PyData.depth] at hd
        cases ra with
        | @tuple l o vs n1 _ as1 g1 g2 g3 g4 =>
          cases rb with
          | @tuple l' o' vs' n2 _ bs1 k1 k2 k3 k4 =>
            have z1 : vs.size = xs.length := by simpa using ReadsAll.length _ _ _ g4
            have z2 : vs'.size = ys.length := by simpa using ReadsAll.length _ _ _ k4
            rw [← pltA_first xs ys k h, ← z1, ← z2]
            have hin : A.in1.units = A.units + 1 := rfl
            refine rcLt_first ⟨_, g1, g2, _, g3⟩ ⟨_, k1, k2, _, k3⟩ (by omega) (fun j j1 j2 => ?_) fun j j1 j2 hall he => ?_
            · obtain ⟨cs, c1, c2⟩ := readsAll_at j g4 (by simpa using j1)
              obtain ⟨ds, d1, d2⟩ := readsAll_at j k4 (by simpa using j2)
              have := depth_mem c2
              exact eqAt_reads _ _ A.in1 s _ _ cs ds (by simpa using c1) (by simpa using d1) (canLay_mem c2 hx) (canLay_mem d2 hy) (by rw [hin]; omega)
            · obtain ⟨cs, c1, c2⟩ := readsAll_at j g4 (by simpa using j1)
              obtain ⟨ds, d1, d2⟩ := readsAll_at j k4 (by simpa using j2)
              have := depth_mem c2
              exact ih _ _ A.in1 s _ _ cs ds _ (by omega) (by simpa using c1) (by simpa using d1) (canLay_mem c2 hx) (canLay_mem d2 hy) (pltA_at xs ys k j h (by omega) (by omega) hall he) (by rw [hin]; omega)
      | _ => simp [plt] at h
    | _ => simp [plt] at h
end DL

/-! The data layer: < of nested rows, list.count, min of numbers, texts: replace, join. -/
namespace DL
open PySem PySem.Spec PyProof.Rows L2
section
variable {X : Cx} {K : PySem.W.Frag} {cA : Str → Addr} {W : WX} {B : Addr → Prop} {ι ι' : List Addr} {S : Sto} {H H' : Hp} {σ : L2.St} {e : En} {a b c : Expr} {ma mb : ME} {xs : MA} {pos : Pos} {es : List Expr}
def rLtP (K : PySem.W.Frag) : R2 := fun x y H Q => ∃ d e k, Dp K H x d ∧ Dp K H y e ∧ SeqAt.shaped d = true ∧ SeqAt.shaped e = true ∧ plt d e = some k ∧ Q (.bl k) H
theorem op_ltP (hu : X.A.units + 64 < cLine) : OpR X (compareOp .Lt) (rLtP X.K) := by
  intro pins s σ H x y v u Q I rx ry h
  obtain ⟨d, e, k, hd, he, sd, se, hk, q⟩ := h
  obtain ⟨as, r1⟩ := Dp.reads I d x v hd rx
  obtain ⟨bs, r2⟩ := Dp.reads I e y u he ry
  have := rc_plt 64 d e X.A s v u as bs k (SeqAt.depth_of_shaped sd) r1 r2 (SeqAt.canLay_of_shaped sd) (SeqAt.canLay_of_shaped se) hk hu
  exact this X.prog X.w X.xe (EP X pins σ Q) ⟨.bl _, H, I, rfl, q⟩
def gLtP (S : Sto) (a b : D) : Option D := match gLt S a b with
  | some d => some d
  | none => match pd (view S a), pd (view S b) with
    | some d, some e => if SeqAt.shaped d = true ∧ SeqAt.shaped e = true then (plt d e).map .bl else none
    | _, _ => none
theorem o_ltP (hu : X.A.units + 64 < cLine) : O2 X (compareOp .Lt) gLtP := by
  obtain ⟨r, h1, h2⟩ := (o_lt : O2 X (compareOp .Lt) gLt).ex
  refine o_mk (h1.or (op_ltP hu)) fun cA B ι S H x y a b d Q rs ra rb hg q => ?_
  unfold gLtP at hg
  split at hg
  · rename_i d' e1
    cases hg
    exact .inl (h2 cA B ι S H x y a b d Q rs ra rb e1 q)
  · split at hg
    · rename_i p1 p2 e1 e2
      split at hg
      · rename_i hz
        cases q3 : plt p1 p2 with
        | none => rw [q3] at hg; cases hg
        | some k =>
          rw [q3] at hg
          cases hg
          exact .inr ⟨p1, p2, k, view_dp rs ra e1, view_dp rs rb e2, hz.1, hz.2, q3, q _ _ same_refl RD.mk_bl⟩
      · cases hg
    · cases hg
end
end DL

/-! The data layer: replace, join, count in a list, the lesser of two numbers. -/
namespace DL
open PySem PySem.Spec PyProof.Rows L2
section
variable {X : Cx} {K : PySem.W.Frag} {cA : Str → Addr} {W : WX} {B : Addr → Prop} {ι ι' : List Addr} {S : Sto} {H H' : Hp} {σ : L2.St} {e : En} {a b c o : Expr} {ma mb mo : ME} {xs : MA} {pos : Pos} {es : List Expr} {g : Sto → D → D → Option D}
/-! ### replace: one token is given out before -/
def gRep (y z : Str) (S : Sto) : D → Option D
  | .str x => if x.length + (x.length + 1) * z.length ≤ 16777216 then some (.str (Txt.replace x y z)) else none
  | _ => none
theorem qt_of (h : PE X a (tE X.K cA W ma)) : PET X a (tE X.K cA W ma) := fun pins s σ H Q _ I q => h.run pins s σ H Q I q
theorem qt_rep {y z : Str} {j0 j1 : Nat} {c0 c1 apos : Pos} (ho : PET X o (tE X.K cA W mo)) (hyz : (y == z) = false := by decide)
    (hst : starEach [.Constant (.str y) j0 c0, .Constant (.str z) j1 c1] X.env = [(false, eval (.Constant (.str y) j0 c0) X.env), (false, eval (.Constant (.str z) j1 c1) X.env)] := by rfl)
    (hbase : attributeBase o "replace" X.env (eval o X.env) = eval o X.env := by rfl) (hline : (apos.endLine == pos.line) = true := by rfl) :
    PET X (.Call (.Attribute o "replace" apos) [.Constant (.str y) j0 c0, .Constant (.str z) j1 c1] [] pos) (tE X.K cA W (e1 (gRep y z) mo)) := fun pins s σ H Q h0 I ⟨B, ι, e, S, re, p⟩ => by
  have h1 : tE X.K cA W mo σ H (fun v H1 => ∃ x, v = .str x ∧ x.length + (x.length + 1) * z.length ≤ 16777216 ∧ Q (.str (Txt.replace x y z)) H1) := .of re (po_bind re p fun ι1 v1 H1 d1 S1 f1 r1 rd1 p1 => by
    obtain ⟨d, hd, q⟩ := po_opt p1 r1.rs
    unfold gRep at hd
    split at hd
    · split at hd
      · rename_i hz
        cases hd
        exact ⟨_, rd1.str, hz, q _ _ same_refl RD.mk_str⟩
      · cases hd
    · cases hd)
  refine PySem.Call_method2 hbase hst hline (wpAny_mono (PySem.wpAny_toks (ho pins s σ H _ h0 I h1)) (fun v s1 q => ?_) fun _ _ x => x.2)
  obtain ⟨hk, w1, H1, I1, rv, x, rfl, hz, q⟩ := q
  obtain ⟨tx, rfl⟩ := rv
  refine ⟨"str", _, F.plainAttrs_str, F.slot_str_replace, F.type_str_replace, typeIs_str _ _ _, (fun _ e => nomatch e), Calls.callWith_builtin rfl (Calls.evalArgs_plain (Calls.spliced_cons ?_))⟩
  refine Calls.Constant_str (Calls.spliced_cons (Calls.Constant_str (Calls.spliced_nil ?_)))
  exact PySem.SC.replace (by show s1.toks ≠ 0; omega) (by show s1.toks + 1 ≠ 0; omega) (by show s1.toks ≠ s1.toks + 1; omega) hyz hz fun t' k => ⟨.str (Txt.replace x y z), H1, I1.tok k, ⟨t', rfl⟩, q⟩
/-- a text, then .. -/
theorem q_opC {op : Operator} {x : Str} {j : Nat} {p : Pos} (ho : O2 X (binaryOp op) g) (hb : PET X b (tE X.K cA W mb)) : PE X (.BinOp (.Constant (.str x) j p) op b pos) (tE X.K cA W (e2 g (eC (.str x)) mb)) := by
  obtain ⟨r, h1, h2⟩ := ho.ex
  refine PEi (t := tOp r (tE X.K cA W (eC (.str x))) (tE X.K cA W mb)) ⟨fun pins s σ H Q I h => wpAny_BinOp (Calls.Constant_str ?_)⟩ (use2 (f := binaryOp op) h2)
  obtain ⟨B, ι, e, S, re, p⟩ := h
  have q1 := p ι (.str x) H Fr.refl re.rs RD.mk_str
  exact thn (hb pins { s with toks := s.toks + 1 } σ H _ (by show 1 ≤ s.toks + 1; omega) (I.tok _) q1) fun u s2 ⟨y, H2, I2, r2, q2⟩ => h1 pins s2 σ H2 (.str x) y (.str x s.toks) u Q I2 ⟨_, rfl⟩ r2 q2

/-! ### methods of texts, of lists -/
def isS : D → Bool
  | .str _ => true
  | _ => false
def eM1 (g : Sto → D → D → Option D) (mo ma : ME) : ME := fun e S => (mo e S).bind fun x S1 => if isS x = true then (ma e S1).bind fun y S2 => opt (g S2 x y) S2 else .bad
def eM0 (g : Sto → D → Option D) (mo : ME) : ME := fun e S => (mo e S).bind fun x S1 => if isS x = true then opt (g S1 x) S1 else .bad
theorem isS_V {d : D} {v : V} (rd : RD K cA B ι H d v) (h : isS d = true) : ∃ x, d = .str x ∧ v = .str x := by
  cases d with
  | str x => exact ⟨x, rfl, rd.str⟩
  | _ => cases h
theorem use_m1 {r : V → List V → Hp → VK → Prop} (hr : ∀ (cA : Str → Addr) (B : Addr → Prop) (ι : List Addr) (S : Sto) (H : Hp) (x : Str) (y : V) (b d : D) (Q : VK), RS X.K cA B ι S H → RD X.K cA B ι H b y → g S (.str x) b = some d → (∀ v H', Same H H' → RD X.K cA B ι H' d v → Q v H') → r (.str x) [y] H Q) :
    ∀ σ H Q, tE X.K cA W (eM1 g mo ma) σ H Q → tM1 r (tE X.K cA W mo) (tE X.K cA W ma) σ H Q := fun σ H Q ⟨B, ι, e, S, re, p⟩ =>
  .of re (po_bind re p fun ι1 v1 H1 d1 S1 f1 r1 rd1 p1 => by
    split at p1
    · rename_i hs
      obtain ⟨x, rfl, rfl⟩ := isS_V rd1 hs
      refine ⟨⟨x, rfl⟩, .of r1 (po_bind r1 p1 fun ι2 v2 H2 d2 S2 f2 r2 rd2 p2 => ?_)⟩
      obtain ⟨d, hd, q⟩ := po_opt p2 r2.rs
      exact hr cA B ι2 S2 H2 x v2 d2 d Q r2.rs rd2 hd q
    · exact p1.elim)
/-- the texts in a row -/
def strL : List D → Option (List Str)
  | [] => some []
  | .str b :: ds => (strL ds).map (b :: ·)
  | _ => none
theorem strs_V : ∀ {ds : List D} {xs : List V} {bs : List Str}, RDs K cA B ι H ds xs → strL ds = some bs → xs = bs.map V.str
  | [], xs, bs, r, h => by cases h; rw [r.nil_inv]; rfl
  | .str k :: ds, xs, bs, r, h => by
    obtain ⟨v, t, rfl, h1, h2⟩ := r.cons_inv
    rw [strL] at h
    cases q : strL ds with
    | none => rw [q] at h; cases h
    | some l =>
      rw [q] at h; cases h
      rw [strs_V h2 q, h1.str]; rfl
  | .non :: ds, xs, bs, r, h => by cases h
  | .bl _ :: ds, xs, bs, r, h => by cases h
  | .int _ :: ds, xs, bs, r, h => by cases h
  | .tup _ :: ds, xs, bs, r, h => by cases h
  | .lst _ :: ds, xs, bs, r, h => by cases h
  | .dct _ _ :: ds, xs, bs, r, h => by cases h
  | .obj _ :: ds, xs, bs, r, h => by cases h
  | .scr _ :: ds, xs, bs, r, h => by cases h
  | .exn _ :: ds, xs, bs, r, h => by cases h
def gJoin (S : Sto) (a b : D) : Option D := match a, view S b with
  | .str x, .lst ds => match strL ds with | some ys => if (ys.map (·.length)).sum + ys.length * x.length ≤ 16777216 then some (.str (Txt.join x ys)) else none | none => none
  | .str x, .tup ds => match strL ds with | some ys => if (ys.map (·.length)).sum + ys.length * x.length ≤ 16777216 then some (.str (Txt.join x ys)) else none | none => none
  | _, _ => none
theorem q_join {apos : Pos} (ho : PE X o (tE X.K cA W mo)) (ha : PE X a (tE X.K cA W ma)) (hs : starEach [a] X.env = [(false, eval a X.env)] := by rfl) (hbase : attributeBase o "join" X.env (eval o X.env) = eval o X.env := by rfl) (hline : (apos.endLine == pos.line) = true := by rfl) :
    PE X (.Call (.Attribute o "join" apos) [a] [] pos) (tE X.K cA W (eM1 gJoin mo ma)) := PEi (pe_join ho ha hs hbase hline) (use_m1 fun cA B ι S H x y b d Q rs rb hg q => by
  unfold gJoin at hg
  split at hg
  · rename_i x' ds e1 e2
    cases e1
    split at hg
    · rename_i ys e3
      split at hg
      · rename_i hz
        cases hg
        obtain ⟨p, us, rfl, h1, h2⟩ := v_lst rs rb e2
        rw [strs_V h2 e3] at h1
        exact ⟨x, p, ys, rfl, rfl, .inl h1, hz, q _ _ same_refl RD.mk_str⟩
      · cases hg
    · cases hg
  · rename_i x' ds e1 e2
    cases e1
    split at hg
    · rename_i ys e3
      split at hg
      · rename_i hz
        cases hg
        obtain ⟨p, us, rfl, h1, h2⟩ := v_tup rb e2
        have h1 := h1.sq
        rw [strs_V h2 e3] at h1
        exact ⟨x, p, ys, rfl, rfl, .inr h1, hz, q _ _ same_refl RD.mk_str⟩
      · cases hg
    · cases hg
  · cases hg)
/-! count -/
def ofV : Value → V
  | .bool b => .bl b
  | .int i _ => .int i
  | .str x _ => .str x
  | _ => .non
theorem ofV_of {v : V} {u : Value} (r : RelV v u) (f : flatV v = true) : ofV u = v := by
  cases v with
  | non => cases (show u = .none from r); rfl
  | bl b => cases (show u = .bool b from r); rfl
  | int i => obtain ⟨t, rfl⟩ := r; rfl
  | str x => obtain ⟨t, rfl⟩ := r; rfl
  | _ => cases f
def rCntV (K : PySem.W.Frag) : V → List V → Hp → VK → Prop := fun x xs H Q => ∃ (p : Addr) (vs : List V) (y : V), x = .ref p ∧ xs = [y] ∧ SqL K H p vs ∧ vs.all flatV = true ∧ flatV y = true ∧ Q (.int (vs.countP fun v => eqV v y : Nat)) H
theorem cnt_same {y : V} : ∀ {vs : List V} {its : List Value}, Vals vs its → vs.all flatV = true → its.countP (fun z => eqV (ofV z) y) = vs.countP (fun v => eqV v y) := by
  intro vs its rv
  induction rv with
  | nil => intro _; rfl
  | cons r _ ih =>
    intro fl
    rw [List.all_cons, Bool.and_eq_true] at fl
    rw [List.countP_cons, List.countP_cons, ih fl.2, ofV_of r fl.1]
theorem mt_countV : MtR X "list.count" (rCntV X.K) := by
  intro pins s σ H x xs v us Q I rx rxs hyp
  obtain ⟨p, vs, y, rfl, rfl, sq, fl, fy, q⟩ := hyp
  cases rx
  obtain ⟨u, rfl, ru⟩ := rxs.one
  obtain ⟨its, rv, ⟨⟨cls, dd, data, sl⟩, n, at1, hc, hdn, hd⟩, hlen⟩ := I.list sq
  simp only at hc hd
  subst hc hd
  have each : ∀ z ∈ its, ∃ w ∈ vs, RelV w z := fun z hz => by
    obtain ⟨i, hi, rfl⟩ := List.getElem_of_mem hz
    have hl := rv.length
    have hi2 : i < vs.length := by omega
    obtain ⟨w', g1, g2⟩ := rv.get (List.getElem?_eq_getElem hi2)
    rw [List.getElem?_eq_getElem hi] at g1
    cases g1
    exact ⟨vs[i], List.getElem_mem _, g2⟩
  refine call_meets PySem.F.slot_list_count ⟨_, at1, rfl⟩ PySem.F.entry_list_count (PySem.F.args_list_count_2 _ _)
    (SeqAt.list_countAt p its.toArray n dd sl u (fun z => eqV (ofV z) y)) ⟨at1, fun z hz => ?_, ?_⟩
  · obtain ⟨w, hw, rw'⟩ := each z (by simpa using hz)
    have fw := List.all_eq_true.mp fl w hw
    rw [ofV_of rw' fw]
    exact eqAt_V rw' ru fw fy
  · rw [List.toList_toArray, cnt_same rv fl]
    exact ⟨.int _, H, I.tok _, ⟨_, rfl⟩, q⟩
def isLv (S : Sto) (d : D) : Bool := match view S d with | .lst _ => true | _ => false
def gCnt (S : Sto) (a b : D) : Option D := match view S a with
  | .lst ds => match flas ds, fla b with | some vs, some y => some (.int (vs.countP fun v => eqV v y : Nat)) | _, _ => none
  | _ => none
def eCnt (mo ma : ME) : ME := fun e S => (mo e S).bind fun x S1 => if isLv S1 x = true then (ma e S1).bind fun y S2 => opt (gCnt S2 x y) S2 else .bad
theorem q_cnt {apos : Pos} (ho : PE X o (tE X.K cA W mo)) (hv : PE X a (tE X.K cA W ma))
    (h : ∀ {to : TE} {t : TA}, PE X o to → PA X [a] t → PE X (.Call (.Attribute o "count" apos) [a] [] pos) (tBM X.K "list" (rCntV X.K) to t)) (hst : starEach [a] X.env = [(false, eval a X.env)] := by rfl) : PE X (.Call (.Attribute o "count" apos) [a] [] pos) (tE X.K cA W (eCnt mo ma)) :=
  PEi (h ho (pa_cons hv pa_nil hst)) fun σ H Q ⟨B, ι, e, S, re, p⟩ =>
    .of re (po_bind re p fun ι1 v1 H1 d1 S1 f1 r1 rd1 p1 => by
      split at p1
      · rename_i hl
        unfold isLv at hl
        split at hl
        · rename_i ds0 q0
          obtain ⟨a', us0, rfl, h20, h30⟩ := v_lst r1.rs rd1 q0
          refine ⟨.inl ⟨rfl, _, h20⟩, .of r1 (po_bind r1 p1 fun ι2 v2 H2 d2 S2 f2 r2 rd2 p2 => ?_)⟩
          obtain ⟨d, hd, q⟩ := po_opt p2 r2.rs
          unfold gCnt at hd
          split at hd
          · rename_i ds q2
            split at hd
            · rename_i vs y e1 e2
              cases hd
              obtain ⟨a2, us, e3, h3, h4⟩ := v_lst r2.rs (RD.fr f2 _ _ rd1) q2
              cases e3
              obtain ⟨g1, g2⟩ := flas_V h4 e1
              obtain ⟨g3, g4⟩ := fla_V rd2 e2
              subst g1 g3
              exact ⟨_, us, v2, rfl, rfl, h3, g2, g4, q _ _ same_refl RD.mk_int⟩
            · cases hd
          · cases hd
        · cases hl
      · exact p1.elim)
def gMin2 (S : Sto) : List D → Option D
  | [.int i, .int j] => some (.int (if j < i then j else i))
  | _ => none
theorem c_min2 (hc : X.calm = true) : CB X (.builtin "min") gMin2 := .mk' (call_min2 hc) fun cA B ι S H xs ds d Q rs rd hg q => by
  unfold gMin2 at hg
  split at hg
  · cases hg
    obtain ⟨v, u, rfl, rv, ru⟩ := rd.two
    exact ⟨_, _, by rw [rv.int, ru.int], q _ H same_refl RD.mk_int⟩
  · cases hg
end
end DL

/-! The data layer: rules, step by step, for what came later. -/
namespace DL
open PySem PySem.Spec PyProof.Rows L2
section
variable {Q : QE} {QL : QA} {QT : QB} {X : QX} {P : PO} {d : D} {ds : List D} {b : Bool} {S : Sto} {c : Str} {e : En} {i n : Nat}
variable {a b' c' : ME} {g g' : Sto → D → D → Option D} {h : Sto → D → Option D} {gl : Sto → List D → Option D} {ma mr : MA} {t u : MB} {sa sb : MS} {m : MF} {tg : MTg} {x y : D}
theorem k_m1 (k : OkE (a e S) (fun x S1 => isS x = true ∧ OkE (b' e S1) (fun y S2 => OkE (opt (g S2 x y) S2) Q X) X) X) : OkE (eM1 g a b' e S) Q X := by
  unfold eM1
  rw [OkE_bind]
  refine k.imp fun x S1 ⟨h1, k⟩ => ?_
  rw [if_pos h1, OkE_bind]; exact k
theorem k_m0 (k : OkE (a e S) (fun x S1 => isS x = true ∧ OkE (opt (h S1 x) S1) Q X) X) : OkE (eM0 h a e S) Q X := by
  unfold eM0
  rw [OkE_bind]
  refine k.imp fun x S1 ⟨h1, k⟩ => ?_
  rw [if_pos h1]; exact k
theorem k_cnt (k : OkE (a e S) (fun x S1 => isLv S1 x = true ∧ OkE (b' e S1) (fun y S2 => OkE (opt (gCnt S2 x y) S2) Q X) X) X) : OkE (eCnt a b' e S) Q X := by
  unfold eCnt
  rw [OkE_bind]
  refine k.imp fun x S1 ⟨h1, k⟩ => ?_
  rw [if_pos h1, OkE_bind]; exact k
theorem k_rep {y z w : Str} (h1 : w.length + (w.length + 1) * z.length ≤ 16777216) (k : Q (.str (Txt.replace w y z)) S) : OkE (opt (gRep y z S (.str w)) S) Q X := by
  simp only [gRep]
  rw [if_pos h1]; exact k
theorem strL_map {α : Type} {f : α → Str} : ∀ l : List α, strL (l.map fun z => D.str (f z)) = some (l.map f)
  | [] => rfl
  | z :: l => by rw [List.map_cons, strL, strL_map l]; rfl
theorem k_joinL {w : Str} {ys : List Str} (h1 : strL ds = some ys) (h2 : (ys.map (·.length)).sum + ys.length * w.length ≤ 16777216) (k : Q (.str (Txt.join w ys)) S) : OkE (opt (gJoin S (.str w) (.lst ds)) S) Q X := by
  simp only [gJoin, view, h1]
  rw [if_pos h2]; exact k
theorem k_joinT {w : Str} {ys : List Str} (h1 : strL ds = some ys) (h2 : (ys.map (·.length)).sum + ys.length * w.length ≤ 16777216) (k : Q (.str (Txt.join w ys)) S) : OkE (opt (gJoin S (.str w) (.tup ds)) S) Q X := by
  simp only [gJoin, view, h1]
  rw [if_pos h2]; exact k
theorem k_min2 {i j : Int} (k : Q (.int (if j < i then j else i)) S) : OkE (opt (gMin2 S [.int i, .int j]) S) Q X := k
theorem k_addT {xs ys : List D} (h1 : xs.length + ys.length ≤ 16777216) (k : Q (.tup (xs ++ ys)) S) : OkE (opt (gAdd S (.tup xs) (.tup ys)) S) Q X := by
  simp only [gAdd, view]
  rw [if_pos h1]; exact k
theorem k_addL {xs ys : List D} (h1 : xs.length + ys.length ≤ 16777216) (k : Q (.lst (xs ++ ys)) S) : OkE (opt (gAdd S (.lst xs) (.lst ys)) S) Q X := by
  simp only [gAdd, view, noS]
  refine k_opt (if_pos ⟨⟨h1, ?_⟩, ?_⟩) k <;> first | trivial | rfl
/-- list(script[..]) + [n] -/
theorem k_cells {ns : List Int} {i j : Nat} {n : Int} (h : ns.length ≤ 1000) (k : ∀ cs : List Int, 0 < cs.length → cs.length ≤ ns.length + 1 → Q (.lst (cs.map D.int)) S) : OkE (opt (gAdd S (.lst ((List.drop i (ns.map D.int)).take j)) (.lst [.int n])) S) Q X := by
  have hl : ((ns.drop i).take j).length ≤ ns.length := by simp; omega
  have h1 := k ((ns.drop i).take j ++ [n]) (by simp) (by rw [List.length_append]; simp; omega)
  refine k_addL (by simp; omega) ?_
  rw [show List.take j (List.drop i (ns.map D.int)) ++ [D.int n] = (((ns.drop i).take j) ++ [n]).map D.int by simp [List.map_take, List.map_drop]]
  exact h1
/-- [n] + list(script[..]) -/
theorem k_cells' {ns : List Int} {i j : Nat} {n : Int} (h : ns.length ≤ 1000) (k : ∀ cs : List Int, 0 < cs.length → cs.length ≤ ns.length + 1 → Q (.lst (cs.map D.int)) S) : OkE (opt (gAdd S (.lst [.int n]) (.lst ((List.drop i (ns.map D.int)).take j))) S) Q X := by
  have hl : ((ns.drop i).take j).length ≤ ns.length := by simp; omega
  have h1 := k (n :: (ns.drop i).take j) (by simp) (by rw [List.length_cons]; omega)
  refine k_addL (by simp; omega) ?_
  rw [show [D.int n] ++ List.take j (List.drop i (ns.map D.int)) = (n :: ((ns.drop i).take j)).map D.int by simp [List.map_take, List.map_drop]]
  exact h1
theorem k_slL' {lo hi : Option Int} {xs : List D} (k : Q (.lst ((xs.drop (HT.sIx xs.length 0 lo)).take (HT.sIx xs.length xs.length hi - HT.sIx xs.length 0 lo))) S) : OkE (opt (gSl lo hi S (.lst xs)) S) Q X := k
theorem k_slC {lo hi : Option Int} {xs : List D} (k : Q (.lst ((xs.drop (HT.sIx xs.length 0 lo)).take (HT.sIx xs.length xs.length hi - HT.sIx xs.length 0 lo))) S) : OkE (opt (gSl lo hi S (.scr xs)) S) Q X := k
theorem k_slT {lo hi : Option Int} {xs : List D} (k : Q (.tup ((xs.drop (HT.sIx xs.length 0 lo)).take (HT.sIx xs.length xs.length hi - HT.sIx xs.length 0 lo))) S) : OkE (opt (gSl lo hi S (.tup xs)) S) Q X := k
theorem k_bnd {n : Int} {p : Prop} (h : 0 ≤ n ∧ n < 4611686018427387904) (k : p) : (-(2 ^ 62) ≤ n ∧ n < 2 ^ 62) ∧ p := ⟨⟨by omega, by omega⟩, k⟩
theorem k_ltS {i j : Str} (k : Q (.bl (decide (i.cps.toList < j.cps.toList))) S) : OkE (opt (gLt S (.str i) (.str j)) S) Q X := k
theorem k_eqB {i j : Bool} (k : Q (.bl (decide (i = j))) S) : OkE (opt (gEq S (.bl i) (.bl j)) S) Q X := by rw [gEq_bl]; exact k
theorem k_neB {i j : Bool} (k : Q (.bl (!decide (i = j))) S) : OkE (opt (gNe S (.bl i) (.bl j)) S) Q X := by rw [gNe_bl]; exact k
/-- what holds behind the first one, whichever way it went -/
theorem k_seqI (I : En → Sto → Prop) (k1 : OkS (sa e S) ⟨I, P.rt, P.bk, P.ct, P.ex⟩) (k2 : ∀ e S, I e S → OkS (sb e S) P) : OkS (sSeq sa sb e S) P :=
  k_seq (k1.imp k2 (fun _ _ h => h) (fun _ _ h => h) (fun _ _ h => h) (fun _ _ _ h => h))
theorem ints_of {l : List D} : (∀ d ∈ l, ∃ z : Int, d = .int z) → ∃ cs : List Int, l = cs.map D.int := by
  induction l with
  | nil => intro _; exact ⟨[], rfl⟩
  | cons d l ih =>
    intro h
    obtain ⟨z, rfl⟩ := h d (by simp)
    obtain ⟨cs, rfl⟩ := ih fun d hd => h d (by simp [hd])
    exact ⟨z :: cs, rfl⟩
/-! ### texts, by their signs -/
theorem str_ext {x y : Str} (h : x.cps.toList = y.cps.toList) : x = y := by
  cases x; cases y
  exact congrArg Str.mk (Array.toList_inj.mp h)
theorem app_list (x y : Str) : (x ++ y).cps.toList = x.cps.toList ++ y.cps.toList := by
  show (x.cps ++ y.cps).toList = _
  simp
theorem slen (x : Str) : x.length = x.cps.toList.length := by simp [Str.length]
theorem join_nil (z : Str) : (Txt.join z []).cps.toList = [] := rfl
theorem join_cons (z p : Str) (r : List Str) : (Txt.join z (p :: r)).cps.toList = StrLaws.glueT z.cps.toList (p :: r) := StrLaws.glued_list z p r
theorem repl1 (a : Nat) (z : List Nat) : ∀ x, StrLaws.replL [a] z x = x.flatMap fun c => if c = a then z else [c]
  | [] => StrLaws.replL_nil
  | c :: r => by
    by_cases h : c = a
    · rw [StrLaws.replL_hit (by simp) (by simp [h])]
      simp [repl1 a z r, h]
    · rw [StrLaws.replL_miss (by simp [h])]
      simp [repl1 a z r, h]
theorem rng_at {lo : Int} {n i : Nat} {d : D} (h : (rng lo n)[i]? = some d) : i < n ∧ d = .int (lo + (i : Int)) := by
  have hi : i < (rng lo n).length := (List.getElem?_eq_some_iff.mp h).1
  rw [rng_len] at hi
  refine ⟨hi, ?_⟩
  unfold rng at h
  rw [List.getElem?_map, List.getElem?_range hi] at h
  cases h; rfl
theorem le_maxD {d y : Int} {ns : List Int} (hy : y ∈ ns) : y ≤ maxD d ns := by
  have key : ∀ (r : List Int) (x : Int), x ≤ r.foldl max x ∧ ∀ y ∈ r, y ≤ r.foldl max x := by
    intro r
    induction r with
    | nil => intro x; exact ⟨Int.le_refl _, fun y hy => by cases hy⟩
    | cons z r ih =>
      intro x
      rw [List.foldl_cons]
      obtain ⟨h1, h2⟩ := ih (max x z)
      refine ⟨by omega, fun y hy => ?_⟩
      rcases List.mem_cons.mp hy with rfl | hy
      · omega
      · exact h2 y hy
  cases ns with
  | nil => cases hy
  | cons x r =>
    rcases List.mem_cons.mp hy with rfl | hy
    · exact (key r y).1
    · exact (key r x).2 y hy
end
end DL

/-! The data layer: exceptions. -/
namespace DL
open PySem PySem.Spec PyProof.Rows L2
section
variable {X : Cx} {σ : L2.St} {H : Hp} {s : Shared} {pins : List (Addr × Obj)}
/-- a new thing that lies in the heap already comes into sight -/
theorem inv_put {a : Addr} {o : HO} (I : Inv X pins σ H s) (h0 : X.s_0.heap.get? a = none) (hn : H a = none) (nL : a ≠ X.env.locals) (nC : ∀ x c, X.env.cells.lookup x = some c → c ≠ a)
    (np : ∀ p ∈ X.pn ++ pins, p.1 ≠ a) (new : ObjOk X.prog X.w (upd H a o) s.heap a o) : Inv X pins σ (upd H a o) s := by
  have up : ∀ {b : Addr}, b ≠ a → upd H a o b = H b := fun z => upd_ne z
  have upS : ∀ {b : Addr} {u : HO}, H b = some u → upd H a o b = some u := fun q => by rw [up (ne_of_none q hn)]; exact q
  have old : ∀ {b : Addr} {u : HO}, X.H_0 b = some u → H b = some u → upd H a o b = some u := fun _ q => upS q
  refine { I with base := ?_, free := by rw [up nL.symm]; exact I.free, freeC := fun x c e => by rw [up (nC x c e)]; exact I.freeC x c e, pin := fun p hp => ?_, hok := I.hok.laidN (fun _ _ q => q) hn new }
  · exact { I.base with
      free := fun b u e n z => by
        rw [up (fun w => by rw [w, h0] at e; cases e)]
        exact I.base.free b u e n z
      tups := fun b xs q => upS (I.base.tups b xs q)
      frzs := fun b u xs q => upS (I.base.frzs b u xs q)
      tbls := fun b ps q => let ⟨m, e⟩ := I.base.tbls b ps q; ⟨m, upS e⟩ }
  · have ⟨e1, n1, r1⟩ := I.pin p hp
    exact ⟨e1, by rw [up (np p hp)]; exact n1, r1⟩
theorem exk_ok {P : Program} {w : World} {h : Heap} {a : Addr} {cls : Value} {oe : Obj} {vs : Array Value} (e : h.get? a = some oe) (z : Zc cls none oe) (d : oe.data = .fields vs) : ObjOk P w H h a (ExK cls a) :=
  ⟨⟨oe, vs, e, z, d⟩, ⟨oe, e⟩, fun _ _ ⟨o, v, q, r⟩ k => ⟨o, v, k o q, r⟩⟩
theorem inv_suite (I : Inv X pins σ H s) (a : Addr) : Inv (X.suite a (X.pn ++ pins)) [] σ H s :=
  { I with ok := I.ok.suite a _, pin := fun p hp => I.pin p (by rw [List.append_nil] at hp; exact hp) }
theorem inv_unsuite {a : Addr} (I : Inv (X.suite a (X.pn ++ pins)) [] σ H s) (ok : X.Ok) : Inv X pins σ H s :=
  { I with ok := ok, pin := fun p hp => I.pin p (List.mem_append_left _ hp) }
end
/-- what 'except x as n', the caught one kept in sight, wishes of the body's exceptions -/
def wKeep (K : PySem.W.Frag) (c : Value) (i : Nat) (ts : Addr → TS) (Wo : WX) (D' : Ends) : WX := fun cls d σ H => ∃ b, PySem.W.exmOne K cls c = some b ∧
  (b = true → d = none ∧ ∀ a, H a = none → ts a { nx := fun τ G => D'.nx (τ.set i none) G, rt := D'.rt, bk := fun τ G => D'.bk (τ.set i none) G, ct := fun τ G => D'.ct (τ.set i none) G } (σ.set i (some (.ref a))) (upd H a (ExK cls a))) ∧ (b = false → Wo cls d σ H)
section
variable {X : Cx} {x n : Str} {c : Value} {i : Nat} {body suite : List Stmt} {t0 : Stmt} {np pos pos' : Pos} {tb : WX → TS} {ts : Addr → TS} {Wo : WX}
theorem ps_try_keep (hst : X.stack = X.env :: X.outer) (hfr : X.env.frame = some X.env.locals) (hex : X.ex = []) (nd : X.N.Nodup) (hi : X.N[i]? = some n) (hk : X.env.kindOf n = some .local) (hc : Names X x c) (tk : Takes X Wo)
    (hb : ∀ (W : WX) (pn : List (Addr × Obj)) (xe : Value → Shared → Prop), Takes (X.tr pn xe) W → PassesOwn (model X.prog X.w) X.A X.env xe → PSs (X.tr pn xe) body (tb W)) (hsu : ∀ (a : Addr) (pn : List (Addr × Obj)), PSs (X.suite a pn) (t0 :: suite) (ts a)) :
    PS X (.Try body [.ExceptHandler (some (.Name x np)) (some n) (t0 :: suite) pos'] [] [] pos) (fun D' σ H => tb (wKeep X.K c i ts Wo D') D' σ H) := ⟨fun pins s σ H D' I h => by
  have ok := I.ok
  have frames : X.A.frames = some (X.env :: X.outer) := ok.frames.trans (by rw [hst])
  have catchIt : Takes (X.tr (X.pn ++ pins) fun e s₁ => wpAny (model X.prog X.w) X.A (noteFrame e X.env) (fun _ s₂ => wpAny (model X.prog X.w) X.A (setFlight e none) (fun _ s₃ =>
      wpAny (model X.prog X.w) X.A (handleBy e X.env [.ExceptHandler (some (.Name x np)) (some n) (t0 :: suite) pos']) (SP X pins D') X.xe s₃) X.xe s₂) X.xe s₁) (wKeep X.K c i ts Wo D') := by
    rintro _ s' ⟨a, B, sI, pins', τ, G, cls, d, rfl, I1, hB, hup, hsky, hGa, hos, hbare, b, hm, hyes, hno⟩
    have J := I1.ofTry ok
    rw [show (X.tr (X.pn ++ pins) _).stack = X.env :: X.outer from hst] at hsky
    refine Sky.land (Q := fun _ s₂ => wpAny (model X.prog X.w) X.A (handleBy (.ref a) X.env [.ExceptHandler (some (.Name x np)) (some n) (t0 :: suite) pos']) (SP X pins D') X.xe s₂) Zc.steady frames hfr hsky fun h3 fl up3 => ?_
    have J3 : Inv X pins τ G { s' with heap := h3 } := J.landed hB fl.1 (hup.trans up3) hos hbare
    obtain ⟨o3, v3, g3, z3, f3⟩ := fl.there
    have noFrame : a ∉ frs (X.env :: X.outer) := fun hm => by
      obtain ⟨_, o', g', nf⟩ := fl.2.2.1.mem hm
      rw [g3] at g'
      cases g'
      exact nf _ f3
    have nL : a ≠ X.env.locals := fun z => noFrame (List.mem_filterMap.mpr ⟨X.env, by simp, by rw [hfr, z]⟩)
    -- it is new
    have newI : sI.heap.get? a = none := by
      cases q : sI.heap.get? a with
      | none => rfl
      | some o =>
        have := hB a o q (by rw [show (X.tr (X.pn ++ pins) _).stack = X.env :: X.outer from hst]; exact noFrame)
        rw [fl.2.1] at this; cases this
    have new0 : X.s_0.heap.get? a = none := by
      cases q : X.s_0.heap.get? a with
      | none => rfl
      | some o =>
        obtain ⟨o', g'⟩ := J.base.there a o q (by rw [hex]; simp)
        rw [newI] at g'; cases g'
    have nP : ∀ p ∈ X.pn ++ pins, p.1 ≠ a := fun p hp z => by
      have := (J.pin p hp).1
      rw [z, newI] at this; cases this
    refine wpAny_handleBy_cons (codeAny_handlers_test ?_) (fun q => by cases q)
    have tyA : PySem.W.Looks (model X.prog X.w) h3 (typeOf (.ref a)) cls := fun A' Q' E' s2 k q => wpAny_typeOf_ref (k _ _ g3) (by rw [z3.1]; exact q)
    have look := PySem.W.exm_one J3.kIn tyA hm
    have S3 := inv_suite J3 a
    have named : ∀ {Q' : Value → Shared → Prop} {E' : Value → Shared → Prop}, Q' c { s' with heap := h3 } → wpAny (model X.prog X.w) (X.A.mark (some (.ref a))) (eval (.Name x np) X.env) Q' E' { s' with heap := h3 } := fun {Q' E'} q => by
      rcases hc with ⟨g, dbg, w | ⟨w, v, nn⟩⟩
      · exact ld_glob (X := X.suite a (X.pn ++ pins)) S3 g w q dbg
      · exact ld_blt (X := X.suite a (X.pn ++ pins)) S3 g w v q nn dbg
    refine named (look.here ?_)
    cases b with
    | false =>
      show wpAny (model X.prog X.w) X.A (handleBy (.ref a) X.env []) _ _ _
      refine wpAny_handleBy_nil ?_
      obtain ⟨_, _, _, o, vs, T, oT, ts', g, z, f, f1, hr⟩ := id fl
      have go : wpAny (model X.prog X.w) X.A (setFlight (.ref a) X.env.frame) (fun _ s4 => wpAny (model X.prog X.w) X.A (throw (.ref a) : Sem Flow) (SP X pins D') X.xe s4) X.xe { s' with heap := h3 } := by
        rw [hfr]
        exact HandSPX.setFlight_upZ fl fun h4 held up4 => wpAny_throw (tk _ _ ⟨a, B, sI, pins, τ, G, cls, d, rfl, J, hB, (hup.trans up3).trans up4, .inr (.inr (by rw [hst]; exact held)), hGa, hos, hbare, hno rfl⟩)
      unfold PySem.passOn
      refine wpAny_bind (wpAny_field g f f1 ?_)
      have ne : ¬ ((Value.ref T == Value.none) = true) := by simp
      rw [if_neg ne]
      first
        | exact wpAny_bind go
        | exact wpAny_bind (wpAny_pure (wpAny_bind go))
    | true =>
      obtain ⟨hd0, hy⟩ := hyes rfl
      subst hd0
      refine codeAny_handlers_suite_as (HandSPX.lands_againZ fl fun h4 fl4 up4 => ?_)
      have J4 : Inv X pins τ G { s' with heap := h4 } := J.landed hB fl4.1 ((hup.trans up3).trans up4) hos hbare
      obtain ⟨o4, v4, g4, z4, f4⟩ := fl4.there
      have nC : ∀ y cc, X.env.cells.lookup y = some cc → cc ≠ a := fun y cc e w => by
        obtain ⟨u, hu⟩ := J.cell y cc e
        obtain ⟨o5, g5, _⟩ := hu
        rw [w, newI] at g5; cases g5
      have K4 := inv_suite (inv_put (o := ExK cls a) J4 new0 hGa nL nC nP (exk_ok g4 z4 f4)) a
      refine store_ok (X := X.suite a (X.pn ++ pins)) (v := .ref a) K4 nd hi (.inl hk) rfl (fun s5 K5 => ?_) (.inr hk)
      refine wpAny_mono ((hsu a (X.pn ++ pins)).run [] s5 _ _ _ K5 (hy a hGa)) (fun f s6 hsp => ?_) fun _ _ z => False.elim z
      have leave : ∀ {υ : L2.St} {F : Hp} {Q' : Shared → Prop}, Inv (X.suite a (X.pn ++ pins)) [] υ F s6 → (∀ s7, Inv X pins (υ.set i none) F s7 → Q' s7) → wpAny (model X.prog X.w) X.A (do bindName X.env n .none; unbindBehindTheSuite X.env n pos') (fun _ s7 => Q' s7) X.xe s6 :=
        fun S6 q => gone_ok (inv_unsuite S6 ok) nd hi hk q
      cases f with
      | next => obtain ⟨υ, F, S6, q⟩ := hsp; exact leave S6 fun s7 J7 => ⟨_, F, J7, q⟩
      | brk => obtain ⟨υ, F, S6, q⟩ := hsp; exact leave S6 fun s7 J7 => ⟨_, F, J7, q⟩
      | cont => obtain ⟨υ, F, S6, q⟩ := hsp; exact leave S6 fun s7 J7 => ⟨_, F, J7, q⟩
      | ret u => obtain ⟨v, υ, F, S6, r, q⟩ := hsp; exact leave S6 fun s7 J7 => ⟨v, _, F, J7, r, q⟩
  refine wpAny_Try_except (wpAny_mono ((hb _ _ _ catchIt PassesOwn.looking).run [] s σ H D' (I.toTry _) h) (fun f s1 hsp => ?_) fun _ _ he => he)
  cases f with
  | next => obtain ⟨υ, F, J, q⟩ := hsp; exact wpAny_execs_nil ⟨υ, F, J.ofTry ok, q⟩
  | brk => obtain ⟨υ, F, J, q⟩ := hsp; exact ⟨υ, F, J.ofTry ok, q⟩
  | cont => obtain ⟨υ, F, J, q⟩ := hsp; exact ⟨υ, F, J.ofTry ok, q⟩
  | ret u => obtain ⟨v, υ, F, J, r, q⟩ := hsp; exact ⟨v, υ, F, J.ofTry ok, r, q⟩⟩
end
end DL

/-! The data layer: enumerate of lists and rows. -/
namespace DL
open PySem PySem.Spec PyProof.Rows L2
open AutoSeq1 (wpAny_loadPart')
theorem meets_enumT (t : Addr) (items : Array Value) (n : Nat) (dct : Option Addr) (sl : Array (Option Value)) : Meets (Builtin.«enumerate.__new__» ⟨[.type "enumerate", .ref t], []⟩) (fun _ R s =>
      s.heap.get? t = some { cls := .type "tuple", dict := dct, data := .seq items n, slots := sl } ∧ R (.ok (.ret (.ref (s.heap.push { cls := .type "tuple_iterator", data := .fields #[.ref t, .int 0 0] }).objs.size)))
        { s with heap := (s.heap.push { cls := .type "tuple_iterator", data := .fields #[.ref t, .int 0 0] }).push { cls := .type "enumerate", data := .fields #[.none, .bool false, .ref s.heap.objs.size, rawInt 0, .none, .none] } }) := .of_wp fun prog w A R s h => by
  obtain ⟨hp, g, d, tk, os⟩ := s
  have hl := h.1
  have q := h.2
  have subE := sub_enumerate
  have hT : Heap.IsTuple (Shared.heap ⟨hp, g, d, tk, os⟩) t items := ⟨_, hl, rfl, n, rfl⟩
  wp_walk using wpAny_loadPart' hl
  refine wpAny_stack_any fun st => wpAny_pure ?_
  split
  · rename_i c _ _ _ _ _
    cases (c == Value.type "enumerate") <;>
    · wp_walk using wpAny_loadPart' hl, wpAny_pyIter_tuple hT
      exact ⟨_, rfl, q⟩
  · wp_walk using wpAny_loadPart' hl, wpAny_pyIter_tuple hT
    exact ⟨_, rfl, q⟩
section
variable {prog : Program} {w : World} {A : Around} {E : Value → Shared → Prop} {s : Shared}
theorem call_enumT {t : Addr} {items : Array Value} {Q : Value → Shared → Prop} (hT : s.heap.IsTuple t items) (h : ∀ h', IsEnum h' (s.heap.objs.size + 1) s.heap.objs.size 0 .none → h'.IsTupleIter s.heap.objs.size t 0 → (∀ b o, s.heap.get? b = some o → h'.get? b = some o) →
      Q (.ref (s.heap.objs.size + 1)) { s with heap := h' }) : wpAny (model prog w) A (call (.type "enumerate") [.ref t]) Q E s := by
  obtain ⟨⟨c, dct, dt, sl⟩, hl, hc, n, hd⟩ := hT
  obtain rfl : c = .type "tuple" := hc
  obtain rfl : dt = .seq items n := hd
  refine callType_new F.called_enumerate (by decide) (F.typeCall_enumerate_1 _) (F.newCall_enumerate_1 _) (fun obj => F.args_object_init_2 obj _) F.entry_enumerate_new (meets_enumT t items n dct sl) ⟨hl, ?_⟩
  have size1 : (s.heap.push { cls := .type "tuple_iterator", data := .fields #[.ref t, .int 0 0] }).objs.size = s.heap.objs.size + 1 := Heap.size_push ..
  show _ ∧ _
  rw [size1]
  have isE : IsEnum ((s.heap.push { cls := .type "tuple_iterator", data := .fields #[.ref t, .int 0 0] }).push { cls := .type "enumerate", data := .fields #[.none, .bool false, .ref s.heap.objs.size, rawInt 0, .none, .none] }) (s.heap.objs.size + 1) s.heap.objs.size 0 .none := by
    have e := Heap.get?_push_size (s.heap.push { cls := .type "tuple_iterator", data := .fields #[.ref t, .int 0 0] }) (o := { cls := .type "enumerate", data := .fields #[.none, .bool false, .ref s.heap.objs.size, rawInt 0, .none, .none] }) rfl
    rw [size1] at e
    exact e
  exact ⟨⟨_, isE, rfl⟩, h _ isE ⟨_, Heap.get?_push_of_some _ (Heap.get?_push_size _ rfl), rfl, rfl⟩ fun b o x => Heap.get?_push_of_some _ (Heap.get?_push_of_some _ x)⟩
end
/-- the row at a, each part with its number in a new pair -/
def Itn (K : PySem.W.Frag) (a : Addr) : It where
  go := fun i H => ∃ (xs : List V) (x : V), SqT K H a xs ∧ xs[i]? = some x
  yld := fun i H v H' => ∃ T x, v = .ref T ∧ H T = none ∧ H' = upd H T (.tup [.int (i : Nat), x]) ∧ ∀ xs, SqT K H a xs → xs[i]? = some x
  stop := fun i H => ∃ xs : List V, SqT K H a xs ∧ xs.length ≤ i
theorem turn_enumT {P : Program} {w : World} {K : PySem.W.Frag} {elts : List Expr} {kk : Nat} {tpos : Pos} {a e it : Addr} (hei : e ≠ it) (hae : a ≠ e) (hai : a ≠ it) :
    Turn P w K (.Tuple elts kk tpos) (Itn K a) [e, it] e (fun i h => (∃ old, IsEnum h e it ((i : Nat) : Int) old) ∧ h.IsTupleIter it a i) where
  mem := List.mem_cons_self
  obj := fun i h ⟨⟨old, he⟩, ⟨o, ho, hc, hd⟩⟩ b hb => by
    rcases List.mem_cons.mp hb with rfl | hb
    · exact ⟨_, he, fun v q => nomatch q⟩
    · obtain rfl := List.mem_singleton.mp hb
      exact ⟨o, ho, fun v q => by rw [hd] at q; cases q⟩
  keep := fun i h h' ⟨⟨old, he⟩, hi⟩ k => ⟨⟨old, k e (by simp) _ he⟩, hi.at fun o q => k it (by simp) o q⟩
  item := by
    rintro X rfl rfl rfl hc i pins s σ H E I hf ⟨⟨old, he⟩, hit⟩ ⟨xs, x, hq, hx⟩
    obtain ⟨its, rv, p, hz⟩ := I.tuple hq
    obtain ⟨u, hu, ru⟩ := rv.get hx
    have p' : s.heap.IsTuple a its.toArray := p
    have le := Heap.lt_size he
    have li : it < s.heap.objs.size := by obtain ⟨_, q, _⟩ := id hit; exact Heap.lt_size q
    have hlt : i < its.toArray.size := by simpa using (List.getElem?_eq_some_iff.mp hu).1
    refine wpAny_pyNext_enum_itemD (A := X.A) (Draws.tuple (A := X.A.in1) (I.ok.hd hc) it a hai its.toArray) he ⟨hit, p'⟩ hlt hei (by simp [hei, Ne.symm hae]) fun x1 h' tk hP ho st' hT hsz hk => ?_
    have ex : x1 = u := by
      have : its[i]? = some x1 := by simpa using hP
      rw [hu] at this; exact (Option.some.inj this).symm
    subst ex
    refine ⟨_, rfl, wpAny_letOwnedTupleGo_enum (s := { s with heap := h', toks := tk + 1 }) ho fun h2 he2 sb => ?_⟩
    have nT : ∀ {b : Addr}, b < s.heap.objs.size → s.heap.objs.size ≠ b := fun z => Nat.ne_of_gt z
    have hT2 : h2.get? s.heap.objs.size = some { cls := .type "tuple", data := .seq #[.int i tk, x1] } := (sb.2 _ (nT le)).trans hT
    have new : ObjOk X.prog X.w (upd H s.heap.objs.size (.tup [.int (i : Nat), x])) h2 s.heap.objs.size (.tup [.int (i : Nat), x]) :=
      ⟨by show 2 ≤ sizeLine; decide, [.int i tk, x1], .cons ⟨_, rfl⟩ (.cons ru .nil), ⟨_, hT2, rfl, _, rfl⟩⟩
    have I1 : Inv X pins σ (upd H s.heap.objs.size (.tup [.int (i : Nat), x])) { s with heap := h2, toks := tk + 1 } :=
      I.turnedNew (ch := [e, it]) (fun b ob hb q => (sb.2 b fun z => hb (by simp [z])).trans (hk b ob (fun z => hb (by simp [z])) (fun z => hb (by simp [z])) q)) hf (Nat.le_refl _) new
    refine ⟨.ref s.heap.objs.size, _, I1, rfl, ⟨_, x, rfl, I.hok.fresh (Nat.le_refl _), rfl, fun ys hy => by rw [I.tuple_inj hy hq]; exact hx⟩, ⟨⟨x1, ?_⟩, st'.1.at fun o q => (sb.2 it (Ne.symm hei)).trans q⟩, fun b hb => ?_⟩
    · rw [show ((i + 1 : Nat) : Int) = (i : Int) + 1 by omega]; exact he2
    · have lb : b < s.heap.objs.size := by
        rcases List.mem_cons.mp hb with rfl | hb
        · exact le
        · rw [List.mem_singleton.mp hb]; exact li
      rw [upd_ne (Nat.ne_of_lt lb)]
      exact (hf b hb).1
  done := by
    rintro X rfl rfl rfl hc i pins s σ H E I hf ⟨⟨old, he⟩, hit⟩ ⟨xs, hq, hx⟩
    obtain ⟨its, rv, p, hz⟩ := I.tuple hq
    have p' : s.heap.IsTuple a its.toArray := p
    obtain ⟨f0, f1, f2, f3, f4, f5⟩ := hf it (by simp)
    have hl := rv.length
    have hsz : s.heap.IsTupleIter it a its.toArray.size ∨ its.toArray.size < i := by
      rcases Nat.lt_or_ge its.toArray.size i with z | z
      · exact .inr z
      · have : i = its.toArray.size := by simp at z ⊢; omega
        exact .inl (this ▸ hit)
    have hT : s.TypeIs (.ref e) "enumerate" := ⟨_, he, rfl⟩
    unfold pyNext
    refine wpAny_bind (wpAny_attempt (wpAny_callSpecial?_slot (name := Str.ofString "__next__") hT F.slot_enumerate_next (wpAny_call_entry F.slot_enumerate_next hT F.entry_enumerate_next ?_ (F.args_enumerate_next_1 _))))
    show wpAny _ _ (field (.ref e) 2 >>= _) _ _ _
    refine wpAny_bind (wpAny_field he rfl (x := .ref it) rfl ?_)
    refine wpAny_bind (wpAny_nextOf_tuple_end (A := X.A.in1) (I.ok.hd hc) hit p' (by simp; omega) fun h' x he' hx' => ?_)
    obtain ⟨o, ho, hcl⟩ := hx'
    refine wpAny_bind (wpAny_isInstance (T := "StopIteration") (b := true) ⟨o, ho, hcl⟩ isSubtype_stop ?_)
    exact wpAny_pure ⟨rfl, I.turned (t' := s.toks) (fun b o hb q => he' b o hb q) f0 f1 f3 f4 f5⟩
  self := fun A i s Q E ⟨⟨_, he⟩, _⟩ h => wpAny_pyIter_enum he h
/-- enumerate(e) -/
def iEnA (K : PySem.W.Frag) (ta : TE) : TI := fun σ H R => ta σ H fun v H1 => ∃ a xs, [v] = [V.ref a] ∧ ((SqL K H1 a xs ∧ R (Ite K a) H1) ∨ (SqT K H1 a xs ∧ R (Itn K a) H1))
theorem pi_enumA {X : Cx} {e : Expr} {ta : TE} {p pos tpos : Pos} {elts : List Expr} {kk : Nat} (hg : Gl X "enumerate") (hm : X.mg "enumerate" = none) (he : PE X e ta) (hs : starEach [e] X.env = [(false, eval e X.env)] := by rfl) : PI X (.Tuple elts kk tpos) (.Call (.Name "enumerate" p) [e] [] pos) (iEnA X.K ta) := ⟨fun pins s σ H R I h => by
  have ha : PA X [e] (tCons ta tNil) := pa_cons he pa_nil hs
  refine Call_ (ld_blt I hg hm boot_enumerate (PyProof.Rows.callWith_type1 (thn (ha.run pos pins s σ H (fun vs H1 => ∃ a xs, vs = [.ref a] ∧ ((SqL X.K H1 a xs ∧ R (Ite X.K a) H1) ∨ (SqT X.K H1 a xs ∧ R (Itn X.K a) H1))) I ?_) fun us s1 ⟨vs, H1, I1, r1, q1⟩ => ?_) hs rfl))
  · exact h
  obtain ⟨a, xs, rfl, q⟩ := q1
  obtain ⟨u, rfl, ru⟩ := r1.one
  obtain rfl : u = Value.ref a := ru
  have young : ∀ {b : Addr}, b ∈ [s1.heap.objs.size + 1, s1.heap.objs.size] → FpOk X pins H1 b := fun {b} hb => by
    have hle : s1.heap.objs.size ≤ b := by
      rcases List.mem_cons.mp hb with rfl | hb
      · exact Nat.le_add_right _ _
      · rw [List.mem_singleton.mp hb]; exact Nat.le_refl _
    exact I1.fpOk hle (I1.hok.fresh hle)
  rcases q with ⟨hq, q⟩ | ⟨hq, q⟩
  · obtain ⟨its, rv, p', hz⟩ := I1.list hq
    refine call_enumerate_list p'.isList fun h' he hit hsz hk => wpAny_pyIter_enum he ?_
    exact ⟨s1.heap.objs.size + 1, [s1.heap.objs.size + 1, s1.heap.objs.size], _, _, H1, rfl, I1.kept (t' := s1.toks) hk, turn_enum a (s1.heap.objs.size + 1) s1.heap.objs.size, ⟨⟨.none, he⟩, hit, Nat.succ_ne_self _⟩, fun b hb => young hb, q⟩
  · obtain ⟨its, rv, p', hz⟩ := I1.tuple hq
    have p2 : s1.heap.IsTuple a its.toArray := p'
    have la : a < s1.heap.objs.size := by obtain ⟨o, ho, _⟩ := p2; exact Heap.lt_size ho
    refine call_enumT p2 fun h' he hit hk => wpAny_pyIter_enum he ?_
    exact ⟨s1.heap.objs.size + 1, [s1.heap.objs.size + 1, s1.heap.objs.size], _, _, H1, rfl, I1.kept (t' := s1.toks) hk, turn_enumT (Nat.succ_ne_self _) (Nat.ne_of_lt (Nat.lt_succ_of_lt la)) (Nat.ne_of_lt la), ⟨⟨.none, he⟩, hit⟩, fun b hb => young hb, q⟩⟩
/-! ### the walk over data -/
def enumD (ds : List D) : List D := ds.mapIdx fun i d => .tup [.int (i : Nat), d]
def itemsE (S : Sto) (d : D) : Option (List D) := match view S d with
  | .lst ds => some (enumD ds)
  | .tup ds => some (enumD ds)
  | _ => none
section
variable {X : Cx} {K : PySem.W.Frag} {cA : Str → Addr} {W : WX} {B : Addr → Prop} {ι ι' : List Addr} {S : Sto} {H H' : Hp} {σ : L2.St} {e : En} {a : Expr} {ma mi el : ME} {st : Stmt} {sts : List Stmt} {sb : MS} {pos : Pos}
theorem enum_get {ds : List D} {i : Nat} {d : D} (h : (enumD ds)[i]? = some d) : ∃ x, ds[i]? = some x ∧ d = .tup [.int (i : Nat), x] := by
  unfold enumD at h
  rw [List.getElem?_mapIdx] at h
  cases q : ds[i]? with
  | none => rw [q] at h; cases h
  | some x => rw [q] at h; cases h; exact ⟨x, rfl, rfl⟩
theorem enum_len (ds : List D) : (enumD ds).length = ds.length := by simp [enumD]
/-- a pair that was just made -/
theorem pair_rd {T : Addr} {i : Nat} {x : V} {d : D} {S : Sto} (rs : RS K cA B ι S H) (np : H T = none) (rd : RD K cA B ι H d x) : RD K cA B ι (upd H T (.tup [.int (i : Nat), x])) (.tup [.int (i : Nat), d]) (.ref T) :=
  new_tup rs np (.cons RD.mk_int (.cons rd .nil))
theorem wk_enumL {a : Addr} {ds : List D} : Wk K cA B (Ite K a) (enumD ds) (fun ι H => (∃ xs, SqL K H a xs ∧ RDs K cA B ι H ds xs) ∧ ∃ S, RS K cA B ι S H) where
  go := fun i ι H hi ⟨⟨xs, h1, h2⟩, _⟩ => by
    rw [enum_len, h2.len] at hi
    exact ⟨xs, xs[i], h1, List.getElem?_eq_getElem hi⟩
  stop := fun ι H ⟨⟨xs, h1, h2⟩, _⟩ => ⟨xs, h1, by rw [enum_len, h2.len]; exact Nat.le_refl _⟩
  yld := fun i ι H x H' d hd ⟨⟨xs, h1, h2⟩, S, rs⟩ ⟨T, y, e1, e2, e3, e4⟩ => by
    subst e1 e3
    obtain ⟨z, hz, rfl⟩ := enum_get hd
    obtain ⟨v, h3, h4⟩ := h2.get hz
    have := e4 xs h1
    rw [h3] at this; cases this
    exact ⟨same_new e2, pair_rd rs e2 h4⟩
theorem wk_enumT {a : Addr} {ds : List D} : Wk K cA B (Itn K a) (enumD ds) (fun ι H => (∃ xs, SqT K H a xs ∧ RDs K cA B ι H ds xs) ∧ ∃ S, RS K cA B ι S H) where
  go := fun i ι H hi ⟨⟨xs, h1, h2⟩, _⟩ => by
    rw [enum_len, h2.len] at hi
    exact ⟨xs, xs[i], h1, List.getElem?_eq_getElem hi⟩
  stop := fun ι H ⟨⟨xs, h1, h2⟩, _⟩ => ⟨xs, h1, by rw [enum_len, h2.len]; exact Nat.le_refl _⟩
  yld := fun i ι H x H' d hd ⟨⟨xs, h1, h2⟩, S, rs⟩ ⟨T, y, e1, e2, e3, e4⟩ => by
    subst e1 e3
    obtain ⟨z, hz, rfl⟩ := enum_get hd
    obtain ⟨v, h3, h4⟩ := h2.get hz
    have := e4 xs h1
    rw [h3] at this; cases this
    exact ⟨same_new e2, pair_rd rs e2 h4⟩
noncomputable def sForE (it : ME) (tg : MTg) (body : MS) : MS := fun e S => (it e S).bindS e fun d S1 => match itemsE S1 d with
  | some ds => forD (fun S' => view S' d = view S1 d) tg body ds e S1
  | none => .bad
noncomputable def eLcE (it : ME) (tg : MTg) (tt : MB) (el : ME) (own : List Nat) : ME := fun e S => (it e S).bind fun d S1 => match itemsE S1 d with
  | some ds => lcD (fun S' => view S' d = view S1 d) tg tt el (wipeE e own) ds [] S1
  | none => .bad
/-- which kind -/
theorem iEn_of {R : It → Hp → Prop} (re : Rel K cA B ι e S σ H) (hbad : ma e S = .bad → False) (hx : ∀ c S1, ma e S = .exc c S1 → ∀ ι' H', Fr ι ι' H H' → RS K cA B ι' S1 H' → W (.ref (cA c)) none σ H')
    (hk : ∀ d S1, ma e S = .ok d S1 → ∃ ds, itemsE S1 d = some ds ∧ ∀ ι1 v H1, Fr ι ι1 H H1 → RS K cA B ι1 S1 H1 → RD K cA B ι1 H1 d v → ∀ (J : It) (ok : (Addr → Prop) → List Addr → Hp → Prop), (∀ B', Wk K cA B' J ds (ok B')) →
      (∀ B' ι2 H2, RD K cA B' ι2 H2 d v → ∀ ι' S' H', Fr ι2 ι' H2 H' → RS K cA B' ι' S' H' → view S' d = view S1 d → ok B' ι' H') → R J H1) : iEnA K (tE K cA W ma) σ H R := .of re (by
  cases q : ma e S with
  | bad => exact (hbad q).elim
  | exc c S1 => exact hx c S1 q
  | ok d S1 =>
    obtain ⟨ds, q2, k⟩ := hk d S1 q
    intro ι1 v H1 f1 rs1 rd1
    have k := k ι1 v H1 f1 rs1 rd1
    unfold itemsE at q2
    split at q2
    · rename_i es hv
      cases q2
      obtain ⟨a, xs, rfl, h1, h2⟩ := v_lst rs1 rd1 hv
      refine ⟨a, xs, rfl, .inl ⟨h1, k _ _ (fun B' => wk_enumL) fun B' ι2 H2 rd2 ι' S' H' f rs' hv' => ⟨?_, S', rs'⟩⟩⟩
      obtain ⟨a', ys, e', h3, h4⟩ := v_lst rs' (RD.fr f _ _ rd2) (hv'.trans hv)
      cases e'
      exact ⟨ys, h3, h4⟩
    · rename_i es hv
      cases q2
      obtain ⟨a, xs, rfl, h1, h2⟩ := v_tup rd1 hv
      refine ⟨a, xs, rfl, .inr ⟨h1.sq, k _ _ (fun B' => wk_enumT) fun B' ι2 H2 rd2 ι' S' H' f rs' hv' => ⟨?_, S', rs'⟩⟩⟩
      obtain ⟨a', ys, e', h3, h4⟩ := v_tup (RD.fr f _ _ rd2) hv
      cases e'
      exact ⟨ys, h3.sq, h4⟩
    · cases q2)
theorem s_forE {g : TG} {m : MTg} {sl : List Nat} {elts : List Expr} {kk : Nat} {tpos p pos' : Pos} {body : List Stmt} (hp : PassesOwn (model X.prog X.w) X.A X.env X.xe) (hc : X.calm = true) (hgl : Gl X "enumerate") (hm : X.mg "enumerate" = none) (hi : PE X a (tE X.K cA W ma)) (hg : PG X (.Tuple elts kk tpos) g) (ht : TgD X.K cA g m sl) (hb : PSs X body (tS X.K cA W sb))
    (hs : ∀ x, foldedSetIterable (.Call (.Name "enumerate" p) [a] [] pos') X.env x = pure x := by intro _; rfl) (hst : starEach [a] X.env = [(false, eval a X.env)] := by rfl) : PS X (.For (.Tuple elts kk tpos) (.Call (.Name "enumerate" p) [a] [] pos') body [] pos) (tS X.K cA W (sForE ma m sb)) :=
  PSi (ps_for hp hc (pi_enumA hgl hm hi hst) hg hb hs) fun D' σ H ⟨B, ι, e, S, re, p⟩ => by
    unfold sForE RE.bindS at p
    refine iEn_of re (fun q => by rw [q] at p; exact p) (fun c S1 q ι' H' f rs => by rw [q] at p; exact p ι' σ H' f (re.fr f rs)) fun d S1 q => ?_
    rw [q] at p
    simp only at p
    cases q2 : itemsE S1 d with
    | none => rw [q2] at p; exact p.elim
    | some ds =>
      rw [q2] at p
      exact ⟨ds, rfl, fun ι1 v H1 f1 rs1 rd1 J ok wk hok => for_wk (C := fun S' => view S' d = view S1 d) (g := g) (m := m) (body := sb) (D' := D') (wk B) ht (fun ι' e S' σ H' f r c => hok B ι1 H1 rd1 ι' S' H' f r.rs c) (re.fr f1 rs1) (PoS.on f1 p)⟩
variable {tg elt : Expr} {ifs : List Expr} {g : TG} {m : MTg} {sl : List Nat} {tt : MB} {own : List (Str × Nat)} {scope : Scope} {elts : List Expr} {kk : Nat} {tpos p pos' : Pos}
theorem lc_enum (hg : TgD X.K cA g m sl) (hsl : ∀ i ∈ sl, i ∈ own.map (·.2)) : ∀ σ H Q, tE X.K cA W (eLcE mi m tt el (own.map (·.2))) σ H Q → tLc (iEnA X.K (tE X.K cA W mi)) g (tT X.K cA WF tt) (tE X.K cA WF el) (own.map (·.2)) σ H Q := fun σ H Q ⟨B, ι, e, S, re, p⟩ => by
  unfold eLcE RE.bind at p
  refine iEn_of re (fun q => by rw [q] at p; exact p) (fun c S1 q => by rw [q] at p; exact p) fun d S1 q => ?_
  rw [q] at p
  simp only at p
  cases q2 : itemsE S1 d with
  | none => rw [q2] at p; exact p.elim
  | some ds =>
    rw [q2] at p
    exact ⟨ds, rfl, fun ι1 v H1 f1 rs1 rd1 J ok wk hok p' np => lc_wk (W := W) (C := fun S' => view S' d = view S1 d) (g := g) (m := m) (tt := tt) (el := el) (own := own.map (·.2)) (Q := Q) (wk (plus B p')) hg hsl np (fun ι' S' H' f r c => hok (plus B p') ι1 H1 (rd1.add np) ι' S' H' f r c) (re.fr f1 rs1) (PoE.on' f1 p)⟩
theorem q_lcE (ht : TgD X.K cA g m sl) (hsl : ∀ i ∈ sl, i ∈ own.map (·.2)) (hc : X.calm = true) (hN : X.N.Nodup) (hgl : Gl X "enumerate") (hm : X.mg "enumerate" = none) (hi : PE X a (tE X.K cA W mi)) (ok : BlkOk X.N X.env.scope scope own)
    (hg : ∀ (s : Shared) (H : Hp) (C : Addr) (cl : List (Str × Addr)) (fp : List Addr), PG (X.blk s H scope (compEnvC scope cl C X.env) fp) (.Tuple elts kk tpos) g) (hx : ∀ (s : Shared) (H : Hp) (C : Addr) (cl : List (Str × Addr)) (fp : List Addr), PTs (X.blk s H scope (compEnvC scope cl C X.env) fp) ifs (tT X.K cA WF tt))
    (he : ∀ (s : Shared) (H : Hp) (C : Addr) (cl : List (Str × Addr)) (fp : List Addr), PE (X.blk s H scope (compEnvC scope cl C X.env) fp) elt (tE X.K cA WF el)) (hs : ∀ x, foldedSetIterable (.Call (.Name "enumerate" p) [a] [] pos') X.env x = pure x := by intro _; rfl) (hst : starEach [a] X.env = [(false, eval a X.env)] := by rfl) :
    PE X (.ListComp elt [⟨.Tuple elts kk tpos, .Call (.Name "enumerate" p) [a] [] pos', ifs, 0⟩] scope pos) (tE X.K cA W (eLcE mi m tt el (own.map (·.2)))) := PEi (pe_lc hc hN (pi_enumA hgl hm hi hst) ok hg hx he hs) (lc_enum ht hsl)
end
end DL

/-! The data layer: int, str, split, max, insert; rows and tables of the module; raise, try, isinstance of what is caught. -/
namespace DL
open PySem PySem.Spec PyProof.Rows L2
section
variable {X : Cx} {K : PySem.W.Frag} {cA : Str → Addr} {W : WX} {B : Addr → Prop} {ι ι' : List Addr} {S : Sto} {H H' : Hp} {σ : L2.St} {e : En} {a b c o : Expr} {ma mb mo : ME} {xs : MA} {pos : Pos} {es : List Expr} {g : Sto → D → D → Option D} {st : Stmt} {sts : List Stmt} {sa sb : MS}
/-! ### int, str, max -/
def gInt (S : Sto) : List D → Option D
  | [.int i] => some (.int i)
  | [.bl k] => some (.int (if k then 1 else 0))
  | [.str x] => if x.length ≤ 640 then (PySem.intText? x).map .int else none
  | _ => none
theorem c_int : CB X (.type "int") gInt := .mk' (CallR.or call_int1 call_int_str) fun cA B ι S H xs ds d Q rs rd hg q => by
  unfold gInt at hg
  split at hg
  · cases hg
    obtain ⟨v, rfl, r⟩ := rd.one
    exact .inl (.inl ⟨_, by rw [r.int], q _ H same_refl RD.mk_int⟩)
  · cases hg
    obtain ⟨v, rfl, r⟩ := rd.one
    exact .inl (.inr ⟨_, by rw [r.bl], q _ H same_refl RD.mk_int⟩)
  · rename_i x
    split at hg
    · rename_i hx
      cases hi : PySem.intText? x with
      | none => rw [hi] at hg; cases hg
      | some n =>
        rw [hi] at hg; cases hg
        obtain ⟨v, rfl, r⟩ := rd.one
        exact .inr ⟨x, n, by rw [r.str], hi, hx, q _ H same_refl RD.mk_int⟩
    · cases hg
  · cases hg
def gStr (S : Sto) : List D → Option D
  | [.str x] => some (.str x)
  | [.int i] => if i.natAbs.log2 < 1920 then some (.str (toString i)) else none
  | _ => none
theorem c_str : CB X (.type "str") gStr := .mk' (CallR.or SkE.call_str_str call_str_int) fun cA B ι S H xs ds d Q rs rd hg q => by
  unfold gStr at hg
  split at hg
  · cases hg
    obtain ⟨v, rfl, r⟩ := rd.one
    exact .inl ⟨_, by rw [r.str], q _ H same_refl RD.mk_str⟩
  · split at hg
    · rename_i i hi
      cases hg
      obtain ⟨v, rfl, r⟩ := rd.one
      exact .inr ⟨i, by rw [r.int], hi, q _ H same_refl RD.mk_str⟩
    · cases hg
  · cases hg
def gMax2 (S : Sto) : List D → Option D
  | [.int i, .int j] => some (.int (if j > i then j else i))
  | _ => none
theorem c_max2 (hc : X.calm = true) : CB X (.builtin "max") gMax2 := .mk' (call_max2 hc) fun cA B ι S H xs ds d Q rs rd hg q => by
  unfold gMax2 at hg
  split at hg
  · cases hg
    obtain ⟨v, u, rfl, rv, ru⟩ := rd.two
    exact ⟨_, _, by rw [rv.int, ru.int], q _ H same_refl RD.mk_int⟩
  · cases hg
/-! ### split, startswith -/
theorem RDs.strs : ∀ ys : List Str, RDs K cA B ι H (ys.map D.str) (ys.map V.str)
  | [] => .nil
  | _ :: r => .cons RD.mk_str (RDs.strs r)
def gSplit (S : Sto) (a b : D) : Option D := match a, b with
  | .str x, .str y => if (y.length == 0) = false ∧ x.length + 2 ≤ 16777216 then some (.lst ((Txt.split x y).map .str)) else none
  | _, _ => none
theorem q_split {apos : Pos} (ho : PE X o (tE X.K cA W mo)) (ha : PE X a (tE X.K cA W ma)) (hs : starEach [a] X.env = [(false, eval a X.env)] := by rfl) (hbase : attributeBase o "split" X.env (eval o X.env) = eval o X.env := by rfl) (hline : (apos.endLine == pos.line) = true := by rfl) :
    PE X (.Call (.Attribute o "split" apos) [a] [] pos) (tE X.K cA W (eM1 gSplit mo ma)) := PEi (pe_split ho ha hs hbase hline) (use_m1 fun cA B ι S H x y b d Q rs rb hg q => by
  unfold gSplit at hg
  split at hg
  · rename_i x' z e1
    cases e1
    split at hg
    · rename_i hz
      cases hg
      exact ⟨x, z, rfl, by rw [rb.str], hz.1, hz.2, fun p np => q _ _ (same_new np) (new_lst rs np (RDs.strs _))⟩
    · cases hg
  · cases hg)
def gSw (S : Sto) (a b : D) : Option D := match a, b with
  | .str x, .str y => some (.bl (Txt.startswith x y))
  | _, _ => none
theorem q_sw {apos : Pos} (ho : PE X o (tE X.K cA W mo)) (ha : PE X a (tE X.K cA W ma)) (hs : starEach [a] X.env = [(false, eval a X.env)] := by rfl) (hbase : attributeBase o "startswith" X.env (eval o X.env) = eval o X.env := by rfl) (hline : (apos.endLine == pos.line) = true := by rfl) :
    PE X (.Call (.Attribute o "startswith" apos) [a] [] pos) (tE X.K cA W (eM1 gSw mo ma)) := PEi (pe_m1 PySem.F.slot_str_startswith PySem.F.type_str_startswith mt_startswith ho ha hs hbase hline) (use_m1 fun cA B ι S H x y b d Q rs rb hg q => by
  unfold gSw at hg
  split at hg
  · rename_i x' z e1
    cases e1
    cases hg
    exact ⟨x, z, rfl, by rw [rb.str], q _ _ same_refl RD.mk_bl⟩
  · cases hg)
/-! ### o.insert(i, v) -/
def insI (S : Sto) : D → D → D → RE
  | .obj n, .int i, d => match S[n]? with
    | some (.lst ds) => if ds.length < 16777216 ∧ 0 ≤ i ∧ i < 2 ^ 63 then .ok .non (S.set n (.lst (ds.take i.toNat ++ [d] ++ ds.drop i.toNat))) else .bad
    | _ => .bad
  | _, _, _ => .bad
def eIns (mo mi mv : ME) : ME := fun e S => (mo e S).bind fun o S1 => if isL S1 o = true then (mi e S1).bind fun i S2 => (mv e S2).bind fun d S3 => insI S3 o i d else .bad
theorem q_ins {i v : Expr} {mi mv : ME} {apos : Pos} (ho : PE X o (tE X.K cA W mo)) (hi : PE X i (tE X.K cA W mi)) (hv : PE X v (tE X.K cA W mv)) (hst : starEach [i, v] X.env = [(false, eval i X.env), (false, eval v X.env)] := by rfl) (hst1 : starEach [v] X.env = [(false, eval v X.env)] := by rfl)
    (h : ∀ {to : TE} {t : TA}, PE X o to → PA X [i, v] t → PE X (.Call (.Attribute o "insert" apos) [i, v] [] pos) (tBM X.K "list" (fun x vs H Q => ∃ (l : Addr) (xs : List V) (i : Int) (y : V), x = .ref l ∧ vs = [.int i, y] ∧ H l = some (.lst xs) ∧ xs.length < sizeLine ∧ 0 ≤ i ∧ i < 2 ^ 63 ∧
      Q .non (upd H l (.lst (xs.take i.toNat ++ [y] ++ xs.drop i.toNat)))) to t)) : PE X (.Call (.Attribute o "insert" apos) [i, v] [] pos) (tE X.K cA W (eIns mo mi mv)) :=
  PEi (h ho (pa_cons hi (pa_cons hv pa_nil hst1) (by rw [hst, hst1]))) fun σ H Q ⟨B, ι, e, S, re, p⟩ =>
    .of re (po_bind re p fun ι1 v1 H1 d1 S1 f1 r1 rd1 p1 => by
      split at p1
      · rename_i hl
        unfold isL at hl
        split at hl
        · rename_i n
          split at hl
          · rename_i ds0 q0
            obtain ⟨a, h1, us0, h20, h30⟩ := r1.rs.at_ n _ q0
            obtain ⟨a', rfl, h4⟩ := rd1.obj
            rw [h1] at h4; cases h4
            refine ⟨.inl ⟨rfl, _, SqL.of h20⟩, .of r1 (po_bind r1 p1 fun ι2 v2 H2 d2 S2 f2 r2 rd2 p2 => .of r2 (po_bind r2 p2 fun ι3 v3 H3 d3 S3 f3 r3 rd3 p3 => ?_))⟩
            cases d2 with
            | int j =>
              simp only [insI] at p3
              split at p3
              · rename_i ds q
                split at p3
                · rename_i hz
                  obtain ⟨a2, h5, us, h6, h7⟩ := r3.rs.at_ n _ q
                  rw [f3.get (f2.get h1)] at h5; cases h5
                  refine ⟨a, us, j, v3, rfl, by rw [(RD.fr f3 _ _ rd2).int], h6, by rw [sizeL, ← h7.len]; exact hz.1, hz.2.1, hz.2.2, ?_⟩
                  have fr : Fr ι3 ι3 H3 (upd H3 a (.lst (us.take j.toNat ++ [v3] ++ us.drop j.toNat))) := Fr.at (List.mem_of_getElem? (f3.get (f2.get h1)))
                  exact p3 ι3 _ _ fr (r3.rs.setL q (f3.get (f2.get h1)) (((h7.take _).append (.cons rd3 .nil)).append (h7.drop _))) RD.mk_non
                · exact p3.elim
              · exact p3.elim
            | _ => exact p3.elim
          · cases hl
        · cases hl
      · exact p1.elim)
/-! ### rows and tables of the module -/
/-- a row of texts at a -/
def rowW (K : PySem.W.Frag) (a : Addr) : Option (List Str) := match K.lookup a with
  | some ⟨.type c, _, .seq its _, _⟩ => if c = "tuple" then its.toList.mapM (m := Option) fun v => match v with | .str x _ => some x | _ => none else none
  | _ => none
theorem vals_strs : ∀ {its : List Value} {ys : List Str}, its.mapM (m := Option) (fun v => match v with | .str x _ => some x | _ => none) = some ys → Vals (ys.map V.str) its
  | [], ys, h => by cases h; exact .nil
  | v :: r, ys, h => by
    rw [List.mapM_cons] at h
    cases v with
    | str x t =>
      cases q : r.mapM (m := Option) (fun v => match v with | .str x _ => some x | _ => none) with
      | none => rw [q] at h; cases h
      | some l =>
        rw [q] at h
        cases h
        exact .cons ⟨t, rfl⟩ (vals_strs q)
    | _ => cases h
theorem row_ok {a : Addr} {ys : List Str} (h : rowW K a = some ys) (hl : ys.length ≤ 1000) : RD K cA B ι H (.tup (ys.map .str)) (.ref a) := by
  unfold rowW at h
  split at h
  · rename_i cl d its n sl q
    split at h
    · rename_i hc
      subst hc
      have v := vals_strs h
      have hz := v.length
      refine .mk_tup (.inr ⟨_, its, n, q, rfl, rfl, ?_, v⟩) (RDs.strs ys)
      rw [sizeL]
      simp at hz
      omega
    · cases h
  · cases h
theorem q_grow {x : Str} {ys : List Str} {a : Addr} {pos : Pos} (hg : Gl X x) (hm : X.mg x = some (.ref a)) (h : rowW X.K a = some ys) (hl : ys.length ≤ 1000 := by decide) (hd : (x == ("__debug__" : Str)) = false := by decide) : PE X (.Name x pos) (tE X.K cA W (eC (.tup (ys.map .str)))) :=
  q_c (v := .ref a) (pe_glob hg hm rfl hd) fun _ _ _ => row_ok h hl
/-- a table of texts by texts -/
def tabW (K : PySem.W.Frag) (a : Addr) : Option (List (Str × Int × Str)) := match K.lookup a with
  | some ⟨.type c, none, .dict es _, sl⟩ => if c = "dict" ∧ sl.isEmpty = true ∧ (a == sysModules) = false then es.toList.mapM (m := Option) fun d => match d.key, d.val with | .str x _, .str y _ => some (x, d.hash, y) | _, _ => none else none
  | _ => none
def gKGet (tb : List (Str × Str)) (S : Sto) : D → Option D
  | .str z => some (match tb.lookup z with | some y => .str y | none => .non)
  | _ => none
theorem tab_find {P : Params} : ∀ {es : List DictEntry} {tb : List (Str × Str)}, es.mapM (m := Option) (fun d => match d.key, d.val with | .str x _, .str y _ => some (x, d.hash, y) | _, _ => none) = some (tb.map fun p => (p.1, PyData.keyHash P p.1, p.2)) →
    PySem.W.KeysLit P es ∧ ∀ z, (tb.lookup z = none → es.find? (·.key.isStr z) = none ∧ es.any (·.refKey) = false) ∧ ∀ y, tb.lookup z = some y → ∃ d t, es.find? (·.key.isStr z) = some d ∧ d.val = .str y t
  | [], [], _ => ⟨trivial, fun z => ⟨fun _ => ⟨rfl, rfl⟩, fun y h => by cases h⟩⟩
  | [], p :: tb, h => by cases h
  | d :: es, tb, h => by
    rw [List.mapM_cons] at h
    obtain ⟨hash, key, val⟩ := d
    cases key with
    | str x t =>
      cases val with
      | str y t2 =>
        cases q : es.mapM (m := Option) (fun d => match d.key, d.val with | .str x _, .str y _ => some (x, d.hash, y) | _, _ => none) with
        | none => simp only [q] at h; cases h
        | some l =>
          simp only [q] at h
          cases tb with
          | nil => cases h
          | cons p tb =>
            obtain ⟨px, py⟩ := p
            simp at h
            obtain ⟨⟨rfl, rfl, rfl⟩, rfl⟩ := h
            obtain ⟨h1, h2⟩ := tab_find q
            refine ⟨⟨⟨x, t, rfl, rfl⟩, h1⟩, fun z => ?_⟩
            have hk : (Value.str x t).isStr z = (x == z) := rfl
            by_cases hz : z = x
            · subst hz
              rw [List.lookup_cons_self, List.find?_cons_of_pos (by rw [hk]; exact beq_self_eq_true z)]
              exact ⟨(fun h => by cases h), fun w h => by cases h; exact ⟨_, t2, rfl, rfl⟩⟩
            · have hb : (z == x) = false := beq_eq_false_iff_ne.mpr hz
              have hb2 : ¬ (Value.str x t).isStr z = true := by
                rw [hk, beq_iff_eq]; exact fun w => hz w.symm
              rw [List.lookup_cons, hb, List.find?_cons_of_neg (p := fun d : DictEntry => d.key.isStr z) hb2, List.any_cons]
              exact ⟨fun h => ⟨((h2 z).1 h).1, by rw [((h2 z).1 h).2]; rfl⟩, (h2 z).2⟩
      | _ => cases h
    | _ => cases h
theorem tab_ok {w : World} {d : Addr} {tb : List (Str × Str)} (h : tabW K d = some (tb.map fun p => (p.1, PyData.keyHash w.params p.1, p.2))) :
    ∃ es n, KDict K w d es n ∧ ∀ z, (tb.lookup z = none → PySem.W.nsIn K d z = some none) ∧ ∀ y, tb.lookup z = some y → ∃ t, PySem.W.nsIn K d z = some (some (.str y t)) := by
  unfold tabW at h
  split at h
  · rename_i cl es n sl q
    split at h
    · rename_i hc
      obtain ⟨hc1, hc2, hc3⟩ := hc
      subst hc1
      have hsl : sl = #[] := by
        obtain ⟨l⟩ := sl
        cases l with
        | nil => rfl
        | cons a l => simp at hc2
      subst hsl
      obtain ⟨h1, h2⟩ := tab_find h
      refine ⟨es, n, ⟨q, h1, hc3⟩, fun z => ⟨fun hz => ?_, fun y hy => ?_⟩⟩
      · obtain ⟨h3, h4⟩ := (h2 z).1 hz
        unfold PySem.W.nsIn
        rw [q]
        simp only [h3, h4]
        rfl
      · obtain ⟨d', t, h3, h4⟩ := (h2 z).2 y hy
        refine ⟨t, ?_⟩
        unfold PySem.W.nsIn
        rw [q]
        simp only [h3, h4]
    · cases h
  · cases h
/-- d.get(k, None), d a table of the module -/
theorem q_kget {x : Str} {tb : List (Str × Str)} {d : Addr} {p apos : Pos} {jj : Nat} {cp : Pos} (hg : Gl X x) (hm : X.mg x = some (.ref d)) (ht : tabW X.K d = some (tb.map fun p => (p.1, PyData.keyHash X.w.params p.1, p.2))) (ha : PE X a (tE X.K cA W ma)) (m : M2 X (.Name x p) "get" apos a (.Constant .none jj cp) pos) (hd : (x == ("__debug__" : Str)) = false := by decide) :
    PE X (.Call (.Attribute (.Name x p) "get" apos) [a, .Constant .none jj cp] [] pos) (tE X.K cA W (e1 (gKGet tb) ma)) := ⟨fun pins s σ H Q I h => by
  obtain ⟨es, n, D, look⟩ := tab_ok ht
  have h1 : tE X.K cA W ma σ H (fun y H1 => ∃ z, y = .str z ∧ Q (match tb.lookup z with | some y => .str y | none => .non) H1) := by
    obtain ⟨B, ι, e, S, re, p⟩ := h
    refine .of re (po_bind re p fun ι1 v1 H1 d1 S1 f1 r1 rd1 p1 => ?_)
    obtain ⟨r, hr, q⟩ := po_opt p1 r1.rs
    cases d1 with
    | str z =>
      cases hr
      refine ⟨z, rd1.str, ?_⟩
      cases q2 : tb.lookup z with
      | none => rw [q2] at q; exact q _ _ same_refl RD.mk_non
      | some y => rw [q2] at q; exact q _ _ same_refl RD.mk_str
    | _ => cases hr
  refine wpAny_Call_method m.base m.few m.line PySem.F.plainAttrs_dict PySem.F.slot_dict_get PySem.F.type_dict_get (ld_glob I hg hm ?_ hd)
  have mp := PySem.W.mapOf_K (prog := X.prog) (w := X.w) I.kIn D.at_ D.lit
  refine ⟨mp.typeIs, mp.noDict, ?_⟩
  rw [m.trees]
  refine Calls.callWith_builtin rfl (Calls.evalArgs_plain (Calls.spliced_cons (thn (ha.run pins s σ H _ I h1) fun iv s2 ⟨y, H2, I2, ry, z, ey, q⟩ => ?_)))
  subst ey
  obtain ⟨t, rfl⟩ := ry
  have hn : PE X (.Constant .none jj cp) (tC .non) := pe_non
  refine Calls.spliced_cons (thn (hn.run pins _ σ H2 (fun v H' => v = .non ∧ H' = H2) I2 ⟨rfl, rfl⟩) fun fv s3 ⟨y3, H3, I3, r3, e3, e4⟩ => Calls.spliced_nil ?_)
  subst e3 e4
  obtain rfl : fv = .none := r3
  have mp2 := PySem.W.mapOf_K (prog := X.prog) (w := X.w) I3.kIn D.at_ D.lit
  refine call_meetsIn PySem.F.slot_dict_get mp2.typeIs PySem.F.entry_dict_get (PySem.F.args_dict_get_3 _ _ _) (meets_dict_get_default (PySem.strKind X.prog X.w) d (PySem.strKind_is X.prog X.w z t) D.low .none) ⟨_, mp2, ?_⟩
  cases q2 : tb.lookup z with
  | none =>
    rw [q2] at q
    rw [PySem.W.find_K D.at_ ((look z).1 q2)]
    exact ⟨.non, _, I3.tok _, rfl, q⟩
  | some w =>
    rw [q2] at q
    obtain ⟨t2, e2⟩ := (look z).2 w q2
    rw [PySem.W.find_K D.at_ e2]
    exact ⟨.str w, _, I3.tok _, ⟨t2, rfl⟩, q⟩⟩
end
end DL

/-! The data layer: raise, try, isinstance of what is caught. -/
namespace DL
open PySem PySem.Spec PyProof.Rows L2
section
variable {X : Cx} {K : PySem.W.Frag} {cA : Str → Addr} {W : WX} {B : Addr → Prop} {ι ι' : List Addr} {S : Sto} {H H' : Hp} {σ : L2.St} {e : En} {a b c o : Expr} {ma mb mo : ME} {xs : MA} {pos : Pos} {es : List Expr} {sa sb : MS}
/-! ### raise -/
def sRaise (c : Str) : MS := fun e S => .exc c e S
theorem s_raise {c : Str} {pe : Expr} (hc : X.calm = true) (tk : Takes X W) (he : PMk X pe (fun _ H Q => Q (.ref (cA c)) none H)) : PS X (.Raise (some pe) none pos) (tS X.K cA W (sRaise c)) :=
  PSi (ps_raise hc tk he) fun D' σ H ⟨B, ι, e, S, re, p⟩ => p ι σ H Fr.refl re
/-! ### try .. except X as n -/
theorem unsetR (r : Rel K cA B ι e S σ H) (i : Nat) : Rel K cA B ι (e.set i none) S (σ.set i none) H := ⟨r.rs, by rw [List.length_set, List.length_set]; exact r.len, fun j d h => by
  by_cases hj : i = j
  · subst hj
    by_cases hl : i < e.length
    · rw [List.getElem?_set_self hl] at h; cases h
    · rw [List.getElem?_eq_none (by rw [List.length_set]; omega)] at h; cases h
  · rw [List.getElem?_set_ne hj] at h ⊢
    exact r.ev j d h⟩
def endT (i : Nat) : RS' → RS'
  | .nx e S => .nx (e.set i none) S
  | .brk e S => .brk (e.set i none) S
  | .cont e S => .cont (e.set i none) S
  | .ret d S => .ret d S
  | _ => .bad
/-- tb: is the class caught? -/
def sTryAs (tb : Str → Option Bool) (i : Nat) (body suite : MS) : MS := fun e S => match body e S with
  | .exc c e1 S1 => match tb c with
    | some true => endT i (suite (e1.set i (some (.exn c))) S1)
    | some false => .exc c e1 S1
    | none => .bad
  | r => r
theorem s_tryAs {x n : Str} {cv : Value} {i : Nat} {body suite : List Stmt} {t0 : Stmt} {np pos pos' : Pos} {tb : Str → Option Bool} (hst : X.stack = X.env :: X.outer) (hfr : X.env.frame = some X.env.locals) (hex : X.ex = []) (nd : X.N.Nodup) (hi : X.N[i]? = some n) (hk : X.env.kindOf n = some .local)
    (hc : Names X x cv) (tk : Takes X W) (tab : ∀ c b, tb c = some b → PySem.W.exmOne X.K (.ref (cA c)) cv = some b) (hb : ∀ (W' : WX) (pn : List (Addr × Obj)) (xe : Value → Shared → Prop), Takes (X.tr pn xe) W' → PassesOwn (model X.prog X.w) X.A X.env xe → PSs (X.tr pn xe) body (tS X.K cA W' sa))
    (hsu : ∀ (a : Addr) (pn : List (Addr × Obj)), PSs (X.suite a pn) (t0 :: suite) (tS X.K cA WF sb)) : PS X (.Try body [.ExceptHandler (some (.Name x np)) (some n) (t0 :: suite) pos'] [] [] pos) (tS X.K cA W (sTryAs tb i sa sb)) :=
  PSi (ps_try_keep (tb := fun W' => tS X.K cA W' sa) (ts := fun _ => tS X.K cA WF sb) hst hfr hex nd hi hk hc tk hb hsu) fun D' σ H ⟨B, ι, e, S, re, p⟩ => .of re (by
    unfold sTryAs at p
    cases q : sa e S with
    | bad => rw [q] at p; exact p
    | nx e1 S1 => rw [q] at p; exact p
    | brk e1 S1 => rw [q] at p; exact p
    | cont e1 S1 => rw [q] at p; exact p
    | ret d S1 => rw [q] at p; exact p
    | exc c e1 S1 =>
      rw [q] at p
      simp only at p
      intro ι1 σ1 H1 f1 r1
      cases q2 : tb c with
      | none => rw [q2] at p; exact p.elim
      | some k =>
        rw [q2] at p
        refine ⟨k, tab c k q2, fun hk => ⟨rfl, fun a na => ?_⟩, fun hk => ?_⟩
        · subst hk
          simp only at p
          have sm : Same H1 (upd H1 a (ExK (.ref (cA c)) a)) := same_new na
          have r2 : Rel X.K cA B ι1 (e1.set i (some (.exn c))) S1 (σ1.set i (some (.ref a))) (upd H1 a (ExK (.ref (cA c)) a)) :=
            (r1.fr (Fr.same sm) (r1.rs.same sm)).set (.mk_exn (not_in r1.rs na) (not_B r1.rs na) upd_same)
          have f2 := f1.trans (Fr.same sm)
          refine .of r2 ?_
          cases q3 : sb (e1.set i (some (.exn c))) S1 with
          | bad => rw [q3] at p; exact p
          | exc c2 e2 S2 => rw [q3] at p; exact p.elim
          | nx e2 S2 => rw [q3] at p; exact fun ι3 σ3 H3 f3 r3 => p ι3 _ H3 (f2.trans f3) (unsetR r3 i)
          | brk e2 S2 => rw [q3] at p; exact fun ι3 σ3 H3 f3 r3 => p ι3 _ H3 (f2.trans f3) (unsetR r3 i)
          | cont e2 S2 => rw [q3] at p; exact fun ι3 σ3 H3 f3 r3 => p ι3 _ H3 (f2.trans f3) (unsetR r3 i)
          | ret d S2 => rw [q3] at p; exact fun ι3 v H3 f3 r3 rd => p ι3 v H3 (f2.trans f3) r3 rd
        · subst hk
          exact p ι1 σ1 H1 f1 r1)
/-! ### try .. except X -/
def nobad : RS' → RS'
  | .exc _ _ _ => .bad
  | r => r
def sTry (tb : Str → Option Bool) (body suite : MS) : MS := fun e S => match body e S with
  | .exc c e1 S1 => match tb c with
    | some true => nobad (suite e1 S1)
    | some false => .exc c e1 S1
    | none => .bad
  | r => r
theorem s_try {x : Str} {cv : Value} {body suite : List Stmt} {t0 : Stmt} {np pos pos' : Pos} {tb : Str → Option Bool} (hst : X.stack = X.env :: X.outer) (hfr : X.env.frame = some X.env.locals) (hc : Names X x cv) (tk : Takes X W) (tab : ∀ c b, tb c = some b → PySem.W.exmOne X.K (.ref (cA c)) cv = some b)
    (hb : ∀ (W' : WX) (pn : List (Addr × Obj)) (xe : Value → Shared → Prop), Takes (X.tr pn xe) W' → PassesOwn (model X.prog X.w) X.A X.env xe → PSs (X.tr pn xe) body (tS X.K cA W' sa))
    (hsu : ∀ (a : Addr) (oe : Obj) (pn : List (Addr × Obj)), PSs (X.suite a ((a, oe) :: pn)) (t0 :: suite) (tS X.K cA WF sb)) : PS X (.Try body [.ExceptHandler (some (.Name x np)) none (t0 :: suite) pos'] [] [] pos) (tS X.K cA W (sTry tb sa sb)) :=
  PSi (ps_try_only (tb := fun W' => tS X.K cA W' sa) (ts := fun _ _ _ => tS X.K cA WF sb) hst hfr hc tk hb (fun a oe cls d pn _ _ => hsu a oe pn)) fun D' σ H ⟨B, ι, e, S, re, p⟩ => .of re (by
    unfold sTry at p
    cases q : sa e S with
    | bad => rw [q] at p; exact p
    | nx e1 S1 => rw [q] at p; exact p
    | brk e1 S1 => rw [q] at p; exact p
    | cont e1 S1 => rw [q] at p; exact p
    | ret d S1 => rw [q] at p; exact p
    | exc c e1 S1 =>
      rw [q] at p
      simp only at p
      intro ι1 σ1 H1 f1 r1
      cases q2 : tb c with
      | none => rw [q2] at p; exact p.elim
      | some k =>
        rw [q2] at p
        refine ⟨k, tab c k q2, fun hk a na => ?_, fun hk => ?_⟩
        · subst hk
          simp only at p
          refine .of r1 ?_
          cases q3 : sb e1 S1 with
          | bad => rw [q3] at p; exact p
          | exc c2 e2 S2 => rw [q3] at p; exact p.elim
          | nx e2 S2 => rw [q3] at p; exact fun ι3 σ3 H3 f3 r3 => p ι3 _ H3 (f1.trans f3) r3
          | brk e2 S2 => rw [q3] at p; exact fun ι3 σ3 H3 f3 r3 => p ι3 _ H3 (f1.trans f3) r3
          | cont e2 S2 => rw [q3] at p; exact fun ι3 σ3 H3 f3 r3 => p ι3 _ H3 (f1.trans f3) r3
          | ret d S2 => rw [q3] at p; exact fun ι3 v H3 f3 r3 rd => p ι3 v H3 (f1.trans f3) r3 rd
        · subst hk
          exact p ι1 σ1 H1 f1 r1)
/-! ### isinstance of what is caught, or None -/
def gIsx (tb : Str → Option Bool) (S : Sto) : D → Option D
  | .exn c => (tb c).map .bl
  | .non => some (.bl false)
  | _ => none
theorem exn_inst {pins : List (Addr × Obj)} {s : Shared} {a D : Addr} (I : Inv X pins σ H s) (h : H a = some (ExK (.ref D) a)) : ∃ oe, PySem.W.InstAt s.heap a oe D none := by
  obtain ⟨⟨oe, vs, hget, hz, hv⟩, _⟩ := I.hok a _ h
  obtain ⟨oc, od, oda, osl⟩ := oe
  obtain ⟨h1, h2⟩ := hz
  dsimp only at h1 h2 hv
  subst h1 h2 hv
  exact ⟨_, hget, rfl, rfl, trivial⟩
def rIsx (K : PySem.W.Frag) : List V → Hp → VK → Prop := fun xs H Q => ∃ (a D : Addr) (c : V) (u : Value) (k : Bool), xs = [.ref a, c] ∧ H a = some (ExK (.ref D) a) ∧ ExcC K D ∧ ClsV c u ∧ PySem.W.kitOne K (.ref D) u = some k ∧ Q (.bl k) H
theorem call_isx : CallR X (.builtin "isinstance") (rIsx X.K) := by
  rintro pins s σ H xs us Q I r ⟨a, D, c, u, k, rfl, hH, C, hc, e, q⟩
  obtain ⟨u1, u2, rfl, r1, r2⟩ := vals2 r
  obtain rfl : u1 = Value.ref a := r1
  obtain rfl := hc.eq r2
  obtain ⟨oe, J⟩ := exn_inst I hH
  exact PySem.W.kia_one (PySem.W.handS_kitx_exc C.hg C.hk C.hs C.hd C.ha C.hn C.ht C.hm) I.kIn J e (fun z => nomatch z) fun tk => ⟨.bl k, H, I.tok tk, rfl, q⟩
def rIsxT (K : PySem.W.Frag) : List V → Hp → VK → Prop := fun xs H Q => ∃ (a D tp : Addr) (cs : List V) (us : List Value) (k : Bool), xs = [.ref a, .ref tp] ∧ H tp = some (.tup cs) ∧ Paired ClsV cs us ∧ H a = some (ExK (.ref D) a) ∧ ExcC K D ∧ PySem.W.kitAny K (.ref D) us = some k ∧ Q (.bl k) H
theorem call_isxT : CallR X (.builtin "isinstance") (rIsxT X.K) := by
  rintro pins s σ H xs us Q I r ⟨a, D, tp, cs, ws, k, rfl, hT, hc, hH, C, e, q⟩
  obtain ⟨u1, u2, rfl, r1, r2⟩ := vals2 r
  obtain rfl : u1 = Value.ref a := r1
  obtain rfl : u2 = Value.ref tp := r2
  obtain ⟨oe, J⟩ := exn_inst I hH
  obtain ⟨_, its, rv, ob, h1, h2, n, h3⟩ := (show ObjOk X.prog X.w H s.heap tp (.tup cs) from I.hok tp _ hT)
  obtain rfl := ClsV.all hc rv
  obtain ⟨oc, od, dt, sl⟩ := ob
  simp only at h2 h3
  subst h2 h3
  exact PySem.W.kia_tup (PySem.W.handS_kitx_exc C.hg C.hk C.hs C.hd C.ha C.hn C.ht C.hm) I.kIn J h1 e (fun z => nomatch z) fun tk => ⟨.bl k, H, I.tok tk, rfl, q⟩
/-- isinstance(e, C) -/
theorem q_isx {u : Value} {cv : V} {tb : Str → Option Bool} {p : Pos} (hg : Gl X "isinstance") (hm : X.mg "isinstance" = none) (ha : PE X a (tE X.K cA W ma)) (ht : PE X b (tC cv)) (hc : ClsV cv u) (tab : ∀ c k, tb c = some k → ExcC X.K (cA c) ∧ PySem.W.kitOne X.K (.ref (cA c)) u = some k) (hn : PySem.W.kitOne X.K (.type "NoneType") u = some false)
    (hs : starEach [a, b] X.env = [(false, eval a X.env), (false, eval b X.env)] := by rfl) (hs2 : starEach [b] X.env = [(false, eval b X.env)] := by rfl) (hpl : (backTo pos (starEach [b] X.env)).any (·.1) = false := by rfl) :
    PE X (.Call (.Name "isinstance" p) [a, b] [] pos) (tE X.K cA W (e1 (gIsx tb) ma)) :=
  PEi (pe_callB (CallR.or call_isi call_isx) hg hm (by decide +kernel) (pa_cons ha (pa_cons ht pa_nil hs2) (by rw [hs, hs2])) (by decide) (by decide) (by rw [hs, hs2]) hpl) fun σ H Q ⟨B, ι, e, S, re, p⟩ =>
    .of re (po_bind re p fun ι1 v1 H1 d1 S1 f1 r1 rd1 p1 => by
      obtain ⟨d, hd, q⟩ := po_opt p1 r1.rs
      cases d1 with
      | exn c =>
        obtain ⟨x, rfl, h1, h2, h3⟩ := rd1.exn
        simp only [gIsx] at hd
        cases hk : tb c with
        | none => rw [hk] at hd; cases hd
        | some k =>
          rw [hk] at hd
          cases hd
          obtain ⟨h4, h5⟩ := tab c k hk
          exact .inr ⟨x, cA c, cv, u, k, rfl, h3, h4, hc, h5, q _ H1 same_refl RD.mk_bl⟩
      | non =>
        cases hd
        exact .inl ⟨v1, cv, .type "NoneType", u, false, rfl, hc, by rw [rd1.non]; exact .base .non, hn, q _ H1 same_refl RD.mk_bl⟩
      | _ => cases hd)
/-- isinstance(e, (C1, C2, ..)) -/
theorem pcs_nil : PA X [] (fun _ H Q => Q [] H) := pa_nil
theorem pcs_cons {cv : V} {cs : List V} (h : PE X a (tC cv)) (r : PA X es (fun _ H Q => Q cs H)) (hs : starEach (a :: es) X.env = (false, eval a X.env) :: starEach es X.env := by rfl) : PA X (a :: es) (fun _ H Q => Q (cv :: cs) H) := pa_cons h r hs
theorem q_isxT {us : List Value} {cs : List V} {tb : Str → Option Bool} {p tp : Pos} {x1 : Nat} (hg : Gl X "isinstance") (hm : X.mg "isinstance" = none) (ha : PE X a (tE X.K cA W ma)) (ht : PA X es (fun _ H Q => Q cs H)) (hc : Paired ClsV cs us) (hl : cs.length ≤ 1000) (tab : ∀ c k, tb c = some k → ExcC X.K (cA c) ∧ PySem.W.kitAny X.K (.ref (cA c)) us = some k)
    (hn : PySem.W.kitAny X.K (.type "NoneType") us = some false) (hs : starEach [a, .Tuple es x1 tp] X.env = [(false, eval a X.env), (false, eval (.Tuple es x1 tp) X.env)] := by rfl) (hs2 : starEach [.Tuple es x1 tp] X.env = [(false, eval (.Tuple es x1 tp) X.env)] := by rfl) (hpl : (backTo pos (starEach [.Tuple es x1 tp] X.env)).any (·.1) = false := by rfl) :
    PE X (.Call (.Name "isinstance" p) [a, .Tuple es x1 tp] [] pos) (tE X.K cA W (e1 (gIsx tb) ma)) :=
  PEi (pe_callB (CallR.or call_isiT call_isxT) hg hm (by decide +kernel) (pa_cons ha (pa_cons (pe_tup ht) pa_nil hs2) (by rw [hs, hs2])) (by decide) (by decide) (by rw [hs, hs2]) hpl) fun σ H Q ⟨B, ι, e, S, re, p⟩ =>
    .of re (po_bind re p fun ι1 v1 H1 d1 S1 f1 r1 rd1 p1 => by
      obtain ⟨d, hd, q⟩ := po_opt p1 r1.rs
      refine ⟨by rw [sizeL]; omega, fun n np => ?_⟩
      have sm : Same H1 (upd H1 n (.tup cs)) := same_new np
      cases d1 with
      | exn c =>
        obtain ⟨x, rfl, h1, h2, h3⟩ := rd1.exn
        simp only [gIsx] at hd
        cases hk : tb c with
        | none => rw [hk] at hd; cases hd
        | some k =>
          rw [hk] at hd
          cases hd
          obtain ⟨h4, h5⟩ := tab c k hk
          exact .inr ⟨x, cA c, n, cs, us, k, rfl, upd_same, hc, sm _ _ h3, h4, h5, q _ _ sm RD.mk_bl⟩
      | non =>
        cases hd
        exact .inl ⟨v1, n, cs, .type "NoneType", us, false, rfl, upd_same, hc, by rw [rd1.non]; exact .base .non, hn, q _ _ sm RD.mk_bl⟩
      | _ => cases hd)
/-! ### tables of classes -/
def tbF (l : List (Str × Bool)) (c : Str) : Option Bool := l.lookup c
theorem tb_nil {P : Str → Bool → Prop} : ∀ c b, tbF [] c = some b → P c b := fun c b h => by cases h
theorem tb_cons {P : Str → Bool → Prop} {x : Str} {k : Bool} {l : List (Str × Bool)} (h : P x k) (r : ∀ c b, tbF l c = some b → P c b) : ∀ c b, tbF ((x, k) :: l) c = some b → P c b := fun c b hb => by
  unfold tbF at hb r
  rw [List.lookup_cons] at hb
  split at hb
  · rename_i e
    cases hb
    rw [eq_of_beq e]
    exact h
  · exact r c b hb
end
end DL

/-! The data layer: a text cut at a sign. -/
namespace DL
open PySem PySem.Spec PyProof.Rows L2
theorem free_app {c : Nat} : ∀ {p q : List Nat} {r s : List Nat}, c ∉ p → c ∉ q → (r = [] ∨ ∃ r', r = c :: r') → (s = [] ∨ ∃ s', s = c :: s') → p ++ r = q ++ s → p = q ∧ r = s
  | [], [], r, s, _, _, _, _, h => ⟨rfl, h⟩
  | [], y :: q, r, s, _, hq, hr, _, h => by
    rcases hr with rfl | ⟨r', rfl⟩
    · simp at h
    · simp at h
      exact absurd (by simp [h.1]) hq
  | x :: p, [], r, s, hp, _, _, hs, h => by
    rcases hs with rfl | ⟨s', rfl⟩
    · simp at h
    · simp at h
      exact absurd (by simp [h.1]) hp
  | x :: p, y :: q, r, s, hp, hq, hr, hs, h => by
    simp only [List.cons_append, List.cons.injEq] at h
    simp only [List.mem_cons, not_or] at hp hq
    obtain ⟨h1, h2⟩ := free_app hp.2 hq.2 hr hs h.2
    exact ⟨by rw [h.1, h1], h2⟩
theorem glueL_or {c : Nat} : ∀ r : List Str, StrLaws.glueL [c] r = [] ∨ ∃ r', StrLaws.glueL [c] r = c :: r'
  | [] => .inl rfl
  | p :: r => .inr ⟨_, rfl⟩
theorem glueL_inj {c : Nat} : ∀ {ps qs : List Str}, (∀ p ∈ ps, c ∉ p.cps.toList) → (∀ p ∈ qs, c ∉ p.cps.toList) → StrLaws.glueL [c] ps = StrLaws.glueL [c] qs → ps = qs
  | [], [], _, _, _ => rfl
  | [], q :: qs, _, _, h => by simp [StrLaws.glueL] at h
  | p :: ps, [], _, _, h => by simp [StrLaws.glueL] at h
  | p :: ps, q :: qs, hp, hq, h => by
    simp only [StrLaws.glueL, List.cons_append, List.nil_append, List.cons.injEq, true_and] at h
    obtain ⟨h1, h2⟩ := free_app (hp p (by simp)) (hq q (by simp)) (glueL_or ps) (glueL_or qs) h
    rw [str_ext h1, glueL_inj (fun z hz => hp z (by simp [hz])) (fun z hz => hq z (by simp [hz])) h2]
theorem glueT_inj {c : Nat} {ps qs : List Str} (np : ps ≠ []) (nq : qs ≠ []) (hp : ∀ p ∈ ps, c ∉ p.cps.toList) (hq : ∀ p ∈ qs, c ∉ p.cps.toList) (h : StrLaws.glueT [c] ps = StrLaws.glueT [c] qs) : ps = qs := by
  cases ps with
  | nil => exact absurd rfl np
  | cons p ps =>
    cases qs with
    | nil => exact absurd rfl nq
    | cons q qs =>
      simp only [StrLaws.glueT] at h
      obtain ⟨h1, h2⟩ := free_app (hp p (by simp)) (hq q (by simp)) (glueL_or ps) (glueL_or qs) h
      rw [str_ext h1, glueL_inj (fun z hz => hp z (by simp [hz])) (fun z hz => hq z (by simp [hz])) h2]
theorem split_ne (x : Str) (c : Nat) : Txt.split x ⟨#[c]⟩ ≠ [] := fun z => by
  have := PyProof.Rows.split_pos x ⟨#[c]⟩
  rw [z] at this
  exact absurd this (by decide)
theorem split_glue (x : Str) (c : Nat) : x.cps.toList = StrLaws.glueT [c] (Txt.split x ⟨#[c]⟩) := by
  have h := StrLaws.join_split x ⟨#[c]⟩
  rw [← StrLaws.glued_eq_join] at h
  cases q : Txt.split x ⟨#[c]⟩ with
  | nil => exact absurd q (split_ne x c)
  | cons p r =>
    rw [q] at h
    have := StrLaws.glued_list ⟨#[c]⟩ p r
    rw [h] at this
    exact this
/-- cut at a sign: just the parts without the sign that give it -/
theorem split_eq {c : Nat} {x : Str} {ps : List Str} (hne : ps ≠ []) (hf : ∀ p ∈ ps, c ∉ p.cps.toList) (hj : x.cps.toList = StrLaws.glueT [c] ps) : Txt.split x ⟨#[c]⟩ = ps :=
  glueT_inj (split_ne x c) hne (StrLaws.split_free x c) hf ((split_glue x c).symm.trans hj)
theorem k_split {x y : Str} {S : Sto} {Q : QE} {X : QX} (h1 : (y.length == 0) = false) (h2 : x.length + 2 ≤ 16777216) (k : Q (.lst ((Txt.split x y).map .str)) S) : OkE (opt (gSplit S (.str x) (.str y)) S) Q X := by
  simp only [gSplit]
  rw [if_pos ⟨h1, h2⟩]; exact k
end DL

/-! The data layer: rules, step by step, for enumerate, tables, raise and try. -/
namespace DL
open PySem PySem.Spec PyProof.Rows L2
section
variable {Q : QE} {QL : QA} {QT : QB} {X : QX} {P : PO} {d : D} {ds : List D} {b : Bool} {S : Sto} {c : Str} {e : En} {i n : Nat}
variable {a b' c' : ME} {ma mr : MA} {t u : MB} {sa sb : MS} {m : MF} {tg : MTg} {x y : D}
theorem k_forE (k : OkE (a e S) (fun d S1 => ∃ ds, itemsE S1 d = some ds ∧ OkS (forD (fun S' => view S' d = view S1 d) tg sa ds e S1) P) (fun c S => P.ex c e S)) : OkS (sForE a tg sa e S) P := by
  unfold sForE
  rw [OkE_bindS]
  refine k.imp fun d S1 ⟨ds, h1, k⟩ => ?_
  rw [h1]; exact k
theorem k_lcE {own : List Nat} (k : OkE (a e S) (fun d S1 => ∃ ds, itemsE S1 d = some ds ∧ OkE (lcD (fun S' => view S' d = view S1 d) tg t b' (wipeE e own) ds [] S1) Q X) X) : OkE (eLcE a tg t b' own e S) Q X := by
  unfold eLcE
  rw [OkE_bind]
  refine k.imp fun d S1 ⟨ds, h1, k⟩ => ?_
  rw [h1]; exact k
theorem k_raise (k : P.ex c e S) : OkS (sRaise c e S) P := k
def oD : Option Str → D
  | some y => .str y
  | none => .non
theorem k_kget {tb : List (Str × Str)} {z : Str} {o : Option Str} (h1 : tb.lookup z = o) (k : Q (oD o) S) : OkE (opt (gKGet tb S (.str z)) S) Q X := by
  have : gKGet tb S (.str z) = some (oD o) := by
    subst h1
    simp only [gKGet]
    cases tb.lookup z <;> rfl
  rw [this]; exact k
theorem k_strS {z : Str} (k : Q (.str z) S) : OkE (opt (gStr S [.str z]) S) Q X := k
theorem k_strI {i : Int} (h1 : i.natAbs.log2 < 1920) (k : Q (.str (toString i)) S) : OkE (opt (gStr S [.int i]) S) Q X := by
  simp only [gStr]
  rw [if_pos h1]; exact k
theorem k_intI {i : Int} (k : Q (.int i) S) : OkE (opt (gInt S [.int i]) S) Q X := k
theorem k_intB {z : Bool} (k : Q (.int (if z then 1 else 0)) S) : OkE (opt (gInt S [.bl z]) S) Q X := k
theorem k_intS {z : Str} {i : Int} (h1 : z.length ≤ 640) (h2 : PySem.intText? z = some i) (k : Q (.int i) S) : OkE (opt (gInt S [.str z]) S) Q X := by
  simp only [gInt]
  rw [if_pos h1, h2]; exact k
theorem k_max2 {i j : Int} (k : Q (.int (if j > i then j else i)) S) : OkE (opt (gMax2 S [.int i, .int j]) S) Q X := k
theorem k_tryAs {tb : Str → Option Bool} (k : OkS (sa e S) ⟨P.nx, P.rt, P.bk, P.ct, fun c e1 S1 => ∃ z, tb c = some z ∧ (z = true → OkS (sb (e1.set i (some (.exn c))) S1) ⟨fun e' S' => P.nx (e'.set i none) S', P.rt, fun e' S' => P.bk (e'.set i none) S', fun e' S' => P.ct (e'.set i none) S', fun _ _ _ => False⟩) ∧ (z = false → P.ex c e1 S1)⟩) : OkS (sTryAs tb i sa sb e S) P := by
  unfold sTryAs
  revert k
  cases sa e S with
  | exc c e1 S1 =>
    rintro ⟨z, h1, h2, h3⟩
    simp only [h1]
    cases z with
    | false => exact h3 rfl
    | true =>
      have h4 := h2 rfl
      simp only
      revert h4
      cases sb (e1.set i (some (.exn c))) S1 <;> exact _root_.id
  | _ => exact _root_.id
theorem k_try {tb : Str → Option Bool} (k : OkS (sa e S) ⟨P.nx, P.rt, P.bk, P.ct, fun c e1 S1 => ∃ z, tb c = some z ∧ (z = true → OkS (sb e1 S1) ⟨P.nx, P.rt, P.bk, P.ct, fun _ _ _ => False⟩) ∧ (z = false → P.ex c e1 S1)⟩) : OkS (sTry tb sa sb e S) P := by
  unfold sTry
  revert k
  cases sa e S with
  | exc c e1 S1 =>
    rintro ⟨z, h1, h2, h3⟩
    simp only [h1]
    cases z with
    | false => exact h3 rfl
    | true =>
      have h4 := h2 rfl
      simp only
      revert h4
      cases sb e1 S1 <;> exact _root_.id
  | _ => exact _root_.id
theorem k_isx {tb : Str → Option Bool} {z : Bool} (h1 : tb c = some z) (k : Q (.bl z) S) : OkE (opt (gIsx tb S (.exn c)) S) Q X := by
  simp only [gIsx, h1]; exact k
theorem k_isxN {tb : Str → Option Bool} (k : Q (.bl false) S) : OkE (opt (gIsx tb S .non) S) Q X := k
theorem k_ins (k : OkE (a e S) (fun o S1 => isL S1 o = true ∧ OkE (b' e S1) (fun i S2 => OkE (c' e S2) (fun d S3 => OkE (insI S3 o i d) Q X) X) X) X) : OkE (eIns a b' c' e S) Q X := by
  unfold eIns
  rw [OkE_bind]
  refine k.imp fun x S1 ⟨h1, k⟩ => ?_
  rw [if_pos h1, OkE_bind]
  simpa only [OkE_bind] using k
theorem k_insI {ds : List D} {j : Int} (h1 : S[n]? = some (.lst ds)) (h2 : ds.length < 16777216 ∧ 0 ≤ j ∧ j < 2 ^ 63) (k : Q .non (S.set n (.lst (ds.take j.toNat ++ [d] ++ ds.drop j.toNat)))) : OkE (insI S (.obj n) (.int j) d) Q X := by
  unfold insI; simp only [h1]; rw [if_pos h2]; exact k
@[simp] theorem low_exn {k : Nat} : low k (.exn c) = true := rfl
@[simp] theorem cl_exn : cl (.exn c) = true := rfl
theorem k_addO {xs ys : List D} (h1 : S[n]? = some (.lst xs)) (h2 : xs.length + ys.length ≤ 16777216) (k : Q (.lst (xs ++ ys)) S) : OkE (opt (gAdd S (.obj n) (.lst ys)) S) Q X := by
  have : gAdd S (.obj n) (.lst ys) = some (.lst (xs ++ ys)) := by
    simp only [gAdd, view, h1, noS]
    exact if_pos ⟨⟨h2, trivial⟩, trivial⟩
  rw [this]; exact k
theorem k_inStr {z w : Str} (k : Q (.bl (sin z w)) S) : OkE (opt (gIn S (.str z) (.str w)) S) Q X := k
/-- [n] + list(script[..]), so many at most -/
theorem k_cellsN {ns : List Int} {i j m : Nat} {n0 : Int} (h : ns.length ≤ 1000) (hj : j ≤ m) (k : ∀ cs : List Int, 0 < cs.length → cs.length ≤ m + 1 → Q (.lst (cs.map D.int)) S) : OkE (opt (gAdd S (.lst [.int n0]) (.lst ((List.drop i (ns.map D.int)).take j))) S) Q X := by
  have hl : ((ns.drop i).take j).length ≤ m := by simp; omega
  have h1 := k (n0 :: (ns.drop i).take j) (by simp) (by rw [List.length_cons]; omega)
  refine k_addL (by simp; omega) ?_
  rw [show [D.int n0] ++ List.take j (List.drop i (ns.map D.int)) = (n0 :: ((ns.drop i).take j)).map D.int by simp [List.map_take, List.map_drop]]
  exact h1
theorem hi_le (n k : Nat) : HT.sIx n n (some (k : Int)) - HT.sIx n 0 none ≤ k := by
  rw [HT.sIx_nat, HT.sIx_none]; omega
/-- a comprehension that changes nothing, over what is told by parts -/
theorem k_lcMapM {α : Type} {own : List Nat} {xs : List α} {g f : α → D} (k : OkE (a e S) (fun d S1 => items S1 d = some (xs.map g) ∧ xs.length ≤ 16777216 ∧ (∀ z ∈ xs, ∃ e1, tg (g z) (wipeE e own) = some e1 ∧ OkE (b' e1 S1) (fun r S' => S' = S1 ∧ r = f z) noX) ∧ Q (.lst (xs.map f)) S1) X) : OkE (eLc a tg tYs b' own e S) Q X := by
  refine k_lc (k.imp fun d S1 ⟨h1, h2, h3, h4⟩ => ⟨_, h1, ?_⟩)
  refine OkE_lc (fun i acc S' => acc = (xs.take i).map f ∧ S' = S1) (k := 0) ⟨rfl, rfl⟩ (by simpa using h2) ?_ ?_
  · rintro i z acc _ hz ⟨rfl, rfl⟩
    rw [List.getElem?_map] at hz
    cases hx : xs[i]? with
    | none => rw [hx] at hz; cases hz
    | some x =>
    rw [hx] at hz
    cases hz
    obtain ⟨e1, h5, h6⟩ := h3 x (List.mem_of_getElem? hx)
    refine ⟨rfl, e1, h5, ?_⟩
    refine k_tYs ⟨fun _ => ?_, fun z => by cases z⟩
    refine h6.imp fun r S' ⟨e1, e2⟩ => ?_
    subst e1 e2
    rw [Nat.zero_add, List.take_add_one, hx, List.map_append]
    exact ⟨rfl, rfl⟩
  · rintro acc _ ⟨rfl, rfl⟩
    rw [Nat.zero_add, List.length_map, List.take_length]
    exact ⟨rfl, h4⟩
/-- a comprehension over range(n) -/
theorem k_lcG1 {own : List Nat} (k : OkE (a e S) (fun d S1 => ∃ j, d = .int j ∧ ((-(2 ^ 62) ≤ j ∧ j < 2 ^ 62) ∧ OkE (lcD (fun _ => True) tg t b' (wipeE e own) (rng 0 j.toNat) [] S1) Q X)) X) : OkE (eLcG (aC a aN) tg t b' own e S) Q X := by
  refine k_lcG (k_aC (k.imp fun d S1 ⟨j, h1, h2, h3⟩ => ?_))
  subst h1
  refine k_aN ⟨0, j.toNat, ?_, h3⟩
  unfold rgs
  exact if_pos h2
theorem cut_lo (z : Str) (k : Nat) : (cutS z (some (k : Int)) none).cps.toList = z.cps.toList.drop k := by
  unfold cutS
  rw [HT.sIx_nat, HT.sIx_none, slen]
  rcases Nat.le_total k z.cps.toList.length with h | h
  · rw [Nat.min_eq_left h]
    exact List.take_of_length_le (by rw [List.length_drop]; exact Nat.le_refl _)
  · rw [Nat.min_eq_right h, Nat.sub_self, List.drop_eq_nil_of_le h]
    simp
theorem cut_hi (z : Str) (k : Nat) : (cutS z none (some (k : Int))).cps.toList = z.cps.toList.take k := by
  unfold cutS
  rw [HT.sIx_nat, HT.sIx_none, slen, List.drop_zero, Nat.sub_zero]
  rcases Nat.le_total k z.cps.toList.length with h | h
  · rw [Nat.min_eq_left h]
  · rw [Nat.min_eq_right h, List.take_of_length_le h, List.take_of_length_le (Nat.le_refl _)]
theorem cut_2 (z : Str) (i j : Nat) : (cutS z (some (i : Int)) (some (j : Int))).cps.toList = (z.cps.toList.drop i).take (j - i) := by
  unfold cutS
  rw [HT.sIx_nat, HT.sIx_nat, slen]
  rcases Nat.le_total i z.cps.toList.length with h | h
  · rw [Nat.min_eq_left h]
    rcases Nat.le_total j z.cps.toList.length with h2 | h2
    · rw [Nat.min_eq_left h2]
    · rw [Nat.min_eq_right h2, List.take_of_length_le (by rw [List.length_drop]; omega), List.take_of_length_le (by rw [List.length_drop]; omega)]
  · rw [Nat.min_eq_right h, List.drop_eq_nil_of_le h, List.drop_eq_nil_of_le (Nat.le_refl _)]
    simp
theorem sum_map_le {α : Type} {f : α → Nat} {m : Nat} : ∀ {l : List α}, (∀ x ∈ l, f x ≤ m) → (l.map f).sum ≤ m * l.length
  | [], _ => Nat.zero_le _
  | x :: l, h => by
    have h1 := h x (by simp)
    have h2 := sum_map_le (l := l) fun y hy => h y (by simp [hy])
    rw [List.map_cons, List.sum_cons, List.length_cons, Nat.mul_succ]
    omega
end
end DL

/-! The data layer: comprehensions whose list is a cell of its own. -/
namespace DL
open PySem PySem.Spec PyProof.Rows L2
section
variable {X : Cx} {K : PySem.W.Frag} {cA : Str → Addr} {W : WX} {B B' : Addr → Prop} {ι ι' : List Addr} {S : Sto} {H H' : Hp} {σ : L2.St} {e : En}
variable {a b c : Expr} {es : List Expr} {ma mb mc : ME} {xs : MA} {pos : Pos} {st : Stmt} {sts : List Stmt} {sa sb : MS}
theorem nin_push {p x : Addr} (h : x ∉ ι) (h2 : ¬ plus B p x) : x ∉ ι ++ [p] := fun m => by
  rcases List.mem_append.mp m with m | m
  · exact h m
  · exact h2 (.inr (List.mem_singleton.mp m))
mutual
theorem RD.pushp {p : Addr} : ∀ (d : D) (v : V), RD K cA (plus B p) ι H d v → RD K cA B (ι ++ [p]) H d v
  | .non, v, h => by rw [RD] at h ⊢; exact h
  | .bl b, v, h => by rw [RD] at h ⊢; exact h
  | .int i, v, h => by rw [RD] at h ⊢; exact h
  | .str x, v, h => by rw [RD] at h ⊢; exact h
  | .tup ds, v, h => by
    rw [RD] at h ⊢
    obtain ⟨a, xs, e, h1, h2⟩ := h
    refine ⟨a, xs, e, ?_, RDs.pushp ds xs h2⟩
    rcases h1 with ⟨h1, h3, h4⟩ | h1
    · exact .inl ⟨nin_push h1 h3, fun z => h3 (.inl z), h4⟩
    · exact .inr h1
  | .lst ds, v, h => by
    rw [RD] at h ⊢
    obtain ⟨a, xs, e, ⟨h1, h3, h4⟩, h2⟩ := h
    exact ⟨a, xs, e, ⟨nin_push h1 h3, fun z => h3 (.inl z), h4⟩, RDs.pushp ds xs h2⟩
  | .dct ks ds, v, h => by
    rw [RD] at h ⊢
    obtain ⟨a, xs, e, h1, h2, h3, h4, h5⟩ := h
    exact ⟨a, xs, e, nin_push h1 h2, fun z => h2 (.inl z), h3, h4, RDs.pushp ds xs h5⟩
  | .obj n, v, h => by
    rw [RD] at h ⊢
    obtain ⟨a, e, h1⟩ := h
    exact ⟨a, e, by rw [List.getElem?_append_left (List.getElem?_eq_some_iff.mp h1).1]; exact h1⟩
  | .scr ds, v, h => by
    rw [RD] at h ⊢
    obtain ⟨a, xs, e, h1, h2⟩ := h
    exact ⟨a, xs, e, h1.imp (fun ⟨h1, h3, h4⟩ => ⟨nin_push h1 h3, fun z => h3 (.inl z), h4⟩) _root_.id, RDs.pushp ds xs h2⟩
  | .exn c, v, h => by
    rw [RD] at h ⊢
    obtain ⟨a, e, h1, h2, h3⟩ := h
    exact ⟨a, e, nin_push h1 h2, fun z => h2 (.inl z), h3⟩
theorem RDs.pushp {p : Addr} : ∀ (ds : List D) (vs : List V), RDs K cA (plus B p) ι H ds vs → RDs K cA B (ι ++ [p]) H ds vs
  | [], vs, h => by rw [RDs] at h ⊢; exact h
  | d :: ds, vs, h => by
    rw [RDs] at h ⊢
    obtain ⟨v, r, e, h1, h2⟩ := h
    exact ⟨v, r, e, RD.pushp d v h1, RDs.pushp ds r h2⟩
end
theorem RO.pushp {p x : Addr} {c : Cell} (h : RO K cA (plus B p) ι H x c) : RO K cA B (ι ++ [p]) H x c := by
  cases c with
  | lst ds => obtain ⟨xs, h1, h2⟩ := h; exact ⟨xs, h1, h2.pushp⟩
  | dct ks ds => obtain ⟨xs, h1, h3, h2⟩ := h; exact ⟨xs, h1, h3, h2.pushp⟩
  | ins C fs => obtain ⟨dx, xs, h1, h3, h2⟩ := h; exact ⟨dx, xs, h1, h3, h2.pushp⟩
theorem RS.pushp {p : Addr} {vs : List V} {ds : List D} (rs : RS K cA (plus B p) ι S H) (h : H p = some (.lst vs)) (hd : RDs K cA (plus B p) ι H ds vs) (nB : ¬ B p) : RS K cA B (ι ++ [p]) (S ++ [.lst ds]) H := by
  have hp : p ∉ ι := (rs.nB p (.inr rfl)).1
  refine ⟨by simp [rs.len], ?_, fun a hb => ?_, fun i c' e => ?_⟩
  · rw [List.nodup_append]
    exact ⟨rs.nd, by simp, fun x hx y hy => by rw [List.mem_singleton.mp hy]; exact fun z => hp (z ▸ hx)⟩
  · obtain ⟨h1, o', h2⟩ := rs.nB a (.inl hb)
    refine ⟨fun m => ?_, o', h2⟩
    rcases List.mem_append.mp m with m | m
    · exact h1 m
    · rw [List.mem_singleton.mp m] at hb
      exact nB hb
  · by_cases hi : i < S.length
    · rw [List.getElem?_append_left hi] at e
      obtain ⟨a, h1, h2⟩ := rs.at_ i c' e
      exact ⟨a, by rw [List.getElem?_append_left (by rw [rs.len]; exact hi)]; exact h1, h2.pushp⟩
    · rw [List.getElem?_append_right (by omega)] at e
      have : i - S.length = 0 := by
        by_cases z : i - S.length = 0
        · exact z
        · rw [List.getElem?_eq_none (by simp; omega)] at e; cases e
      rw [this] at e
      cases e
      refine ⟨p, ?_, vs, h, hd.pushp⟩
      rw [List.getElem?_append_right (by rw [rs.len]; omega), rs.len, this]; rfl
theorem Fr.pushp {p : Addr} (f : Fr ι ι' H H') (np : H p = none) (hp : p ∉ ι) : Fr ι (ι' ++ [p]) H H' := by
  obtain ⟨⟨l, rfl, h1⟩, h2⟩ := f
  refine ⟨⟨l ++ [p], by simp, fun a m => ?_⟩, h2⟩
  rcases List.mem_append.mp m with m | m
  · exact h1 a m
  · rw [List.mem_singleton.mp m]; exact ⟨hp, np⟩
/-- the list that comes is a cell -/
def cel : RE → RE
  | .ok (.lst ds) S => .ok (.obj S.length) (S ++ [.lst ds])
  | .ok _ _ => .bad
  | .exc c S => .exc c S
  | .bad => .bad
def eCel (m : ME) : ME := fun e S => cel (m e S)
theorem lc_wkC {J : It} {ds : List D} {ok : List Addr → Hp → Prop} {C : Sto → Prop} {g : TG} {m : MTg} {sl : List Nat} {tt : MB} {el : ME} {own : List Nat} {Q : VK} {p : Addr} (wk : Wk K cA (plus B p) J ds ok) (ht : TgD K cA g m sl) (hsl : ∀ i ∈ sl, i ∈ own) (np : H p = none)
    (hok : ∀ ι' S' H', Fr ι ι' H H' → RS K cA (plus B p) ι' S' H' → C S' → ok ι' H') (r : Rel K cA B ι e S σ H) (po : PoE K cA W B (cel (lcD C m tt el (wipeE e own) ds [] S)) ι σ H Q) :
    ∃ Wd : Nat → Nat → Hp → Prop, (∃ n, Wd 0 n (upd H p (.lst []))) ∧ ∀ i n H, Wd i n H →
      (J.stop i H ∧ Q (.ref p) H) ∨ (J.go i H ∧ ∃ Nx : Hp → Prop, (∀ H', Nx H' → ∃ n', n' < n ∧ Wd (i + 1) n' H') ∧ ∀ x H', J.yld i H x H' → g x (wipe σ own) H' fun σ2 H2 => wipe σ2 own = wipe σ own ∧ tT K cA WF tt σ2 H2 fun b H3 =>
        if b = true then tE K cA WF el σ2 H3 fun y H4 => ∃ acc, H4 p = some (.lst acc) ∧ acc.length < sizeLine ∧ Nx (upd H4 p (.lst (acc ++ [y]))) else Nx H3) := by
  refine ⟨fun i n H1 => n + i = ds.length ∧ ∃ ι1 S1 acc vs, Fr ι ι1 H H1 ∧ Rel K cA (plus B p) ι1 (wipeE e own) S1 (wipe σ own) H1 ∧ H1 p = some (.lst vs) ∧ RDs K cA (plus B p) ι1 H1 acc vs ∧ PoE K cA W B (cel (lcD C m tt el (wipeE e own) (ds.drop i) acc S1)) ι σ H Q, ⟨ds.length, by simp, ι, S, [], [], Fr.same (same_new np), ?_, upd_same, .nil, by simpa using po⟩, ?_⟩
  · have rw := r.wipe own
    exact ⟨r.rs.apart np, rw.len, fun i d h => let ⟨v, h1, h2⟩ := rw.ev i d h; ⟨v, h1, (h2.add np).app⟩⟩
  rintro i n H1 ⟨hn, ι1, S1, acc, vs, f1, r1, hp1, ra, p1⟩
  have nB : ¬ B p := not_B r.rs np
  have hp0 : p ∉ ι := not_in r.rs np
  have hpB : ∀ {ι3 S3 H3}, RS K cA (plus B p) ι3 S3 H3 → p ∉ ι3 := fun rs => (rs.nB p (.inr rfl)).1
  by_cases hi : i < ds.length
  · rw [List.drop_eq_getElem_cons hi] at p1
    unfold lcD at p1
    by_cases hC : C S1
    · rw [if_pos hC] at p1
      have hok1 := hok ι1 S1 H1 f1 r1.rs hC
      cases q : m ds[i] (wipeE e own) with
      | none => rw [q] at p1; exact p1.elim
      | some e2 =>
        rw [q] at p1
        simp only at p1
        refine .inr ⟨wk.go i ι1 H1 hi hok1, fun H3 => ∃ ι1 S1 acc vs, Fr ι ι1 H H3 ∧ Rel K cA (plus B p) ι1 (wipeE e own) S1 (wipe σ own) H3 ∧ H3 p = some (.lst vs) ∧ RDs K cA (plus B p) ι1 H3 acc vs ∧ PoE K cA W B (cel (lcD C m tt el (wipeE e own) (ds.drop (i + 1)) acc S1)) ι σ H Q, fun H3 h => ⟨n - 1, by omega, by omega, h⟩, fun x H2 y => ?_⟩
        obtain ⟨sm, rd⟩ := wk.yld i ι1 H1 x H2 ds[i] (List.getElem?_eq_getElem hi) hok1 y
        have f12 : Fr ι1 ι1 H1 H2 := Fr.same sm
        have r1' : Rel K cA (plus B p) ι1 (wipeE e own) S1 (wipe σ own) H2 := r1.fr f12 (r1.rs.same sm)
        refine ht _ ι1 _ e2 S1 _ H2 ds[i] x _ r1' rd q fun σ2 r2 hw => ⟨?_, .of r2 ?_⟩
        · rw [hw own hsl, wipe_wipe]
        cases q2 : tt e2 S1 with
        | bad => rw [q2] at p1; exact p1
        | exc c S3 => rw [q2] at p1; exact p1.elim
        | ok k S3 =>
          rw [q2] at p1
          intro ι3 H3 f3 rs3
          have f13 : Fr ι1 ι3 H1 H3 := f12.trans f3
          have hp3 : H3 p = some (.lst vs) := f13.st _ _ hp1 (hpB r1.rs)
          cases k with
          | false =>
            rw [if_neg Bool.false_ne_true]
            exact ⟨ι3, S3, acc, vs, f1.trans f13, r1.fr f13 rs3, hp3, RDs.fr f13 _ _ ra, p1⟩
          | true =>
            rw [if_pos rfl]
            simp only at p1
            refine .of (r2.fr f3 rs3) ?_
            cases q3 : el e2 S3 with
            | bad => rw [q3] at p1; exact p1
            | exc c S4 => rw [q3] at p1; exact p1.elim
            | ok z S4 =>
              rw [q3] at p1
              intro ι4 v H4 f4 rs4 rd4
              have f14 : Fr ι1 ι4 H1 H4 := f13.trans f4
              have hp4 : H4 p = some (.lst vs) := f4.st _ _ hp3 (hpB rs3)
              simp only at p1
              by_cases hz : acc.length < 16777216
              · rw [if_pos hz] at p1
                have f4' := f1.trans f14
                have r4 := r1.fr f14 rs4
                refine ⟨vs, hp4, by rw [sizeL, ← ra.len]; exact hz, ι4, S4, acc ++ [z], vs ++ [v], ⟨f4'.pre, fun a o h h2 => by
                  rw [upd_ne (ne_of_none h np)]; exact f4'.st a o h h2⟩, ⟨r4.rs.app, r4.len, fun i d h => let ⟨v, h1, h2⟩ := r4.ev i d h; ⟨v, h1, h2.app⟩⟩, upd_same, ((RDs.fr f14 _ _ ra).append (.cons rd4 .nil)).app, p1⟩
              · rw [if_neg hz] at p1; exact p1.elim
    · rw [if_neg hC] at p1; exact p1.elim
  · rw [List.drop_eq_nil_of_le (by omega)] at p1
    unfold lcD at p1
    by_cases hC : C S1
    · rw [if_pos hC] at p1
      have e' : i = ds.length := by omega
      subst e'
      exact .inl ⟨wk.stop ι1 H1 (hok ι1 S1 H1 f1 r1.rs hC), p1 (ι1 ++ [p]) (.ref p) H1 (f1.pushp np hp0) (r1.rs.pushp hp1 ra nB) (.mk_obj (by rw [← r1.rs.len, List.getElem?_append_right (Nat.le_refl _)]; simp))⟩
    · rw [if_neg hC] at p1; exact p1.elim
section
variable {it tg elt : Expr} {ifs : List Expr} {g : TG} {m : MTg} {sl : List Nat} {tt : MB} {el mi : ME} {wi : TI} {own : List (Str × Nat)} {scope : Scope}
theorem lc_anyC (hg : TgD X.K cA g m sl) (hsl : ∀ i ∈ sl, i ∈ own.map (·.2)) : ∀ σ H Q, tE X.K cA W (eCel (eLc mi m tt el (own.map (·.2)))) σ H Q → tLc (iAny X.K (tE X.K cA W mi)) g (tT X.K cA WF tt) (tE X.K cA WF el) (own.map (·.2)) σ H Q := fun σ H Q ⟨B, ι, e, S, re, p⟩ => by
  unfold eCel eLc RE.bind at p
  show iAny X.K _ σ H _
  cases q : mi e S with
  | bad => rw [q] at p; exact p.elim
  | exc c S1 => rw [q] at p; exact .inl (.of re (by rw [q]; exact p))
  | ok d S1 =>
    rw [q] at p
    simp only at p
    cases q2 : items S1 d with
    | none => rw [q2] at p; exact p.elim
    | some ds =>
      rw [q2] at p
      simp only at p
      have fin : ∀ {ι1 H1 J} {ok : List Addr → Hp → Prop} (p' : Addr), Fr ι ι1 H H1 → RS X.K cA B ι1 S1 H1 → H1 p' = none → Wk X.K cA (plus B p') J ds ok → (∀ ι' S' H', Fr ι1 ι' H1 H' → RS X.K cA (plus B p') ι' S' H' → view S' d = view S1 d → ok ι' H') → _ := fun {ι1 H1 J ok} p' f1 rs1 np wk hok =>
        lc_wkC (W := W) (C := fun S' => view S' d = view S1 d) (g := g) (m := m) (tt := tt) (el := el) (own := own.map (·.2)) (Q := Q) wk hg hsl np (fun ι' S' H' f r c => hok ι' S' H' f r c) (re.fr f1 rs1) (by
          revert p
          cases cel (lcD (fun S' => view S' d = view S1 d) m tt el (wipeE e (own.map (·.2))) ds [] S1) with
          | bad => exact _root_.id
          | ok d2 S2 => exact fun h ι2 v2 H2 f2 r2 d2 => h ι2 v2 H2 (f1.trans f2) r2 d2
          | exc c S2 => exact fun h ι2 H2 f2 r2 => h ι2 H2 (f1.trans f2) r2)
      unfold items at q2
      split at q2
      · refine .inl (.of re ?_)
        rw [q]
        intro ι1 v H1 f1 rs1 rd1
        rename_i es hv
        obtain ⟨a, xs, rfl, h1, h2⟩ := v_lst rs1 rd1 hv
        cases q2
        refine ⟨a, rfl, ⟨xs, h1⟩, fun p' np => fin p' f1 rs1 np wk_list fun ι' S' H' f rs' hv' => ?_⟩
        obtain ⟨a', ys, e', h3, h4⟩ := v_lst rs' (RD.fr f _ _ (rd1.add np)) (hv'.trans hv)
        cases e'
        exact ⟨ys, h3, h4⟩
      · refine .inr (.inl (.of re ?_))
        rw [q]
        intro ι1 v H1 f1 rs1 rd1
        rename_i es hv
        obtain ⟨a, xs, rfl, h1, h2⟩ := v_tup rd1 hv
        cases q2
        refine ⟨a, rfl, ⟨xs, h1.sq⟩, fun p' np => fin p' f1 rs1 np wk_tup fun ι' S' H' f rs' hv' => ?_⟩
        have hd : d = .tup _ := view_ne hv (by intro _ z; cases z) (by intro _ _ z; cases z)
        subst hd
        obtain ⟨a', ys, e', h3, h4⟩ := ((RD.fr f _ _ (rd1.add np)).tup : ∃ a xs, _)
        cases e'
        exact ⟨ys, h3, h4⟩
      · refine .inr (.inr (.of re ?_))
        rw [q]
        intro ι1 v H1 f1 rs1 rd1
        rename_i x hv
        cases q2
        exact ⟨x, v_str rd1 hv, fun p' np => fin p' f1 rs1 np wk_str fun _ _ _ _ _ _ => True.intro⟩
      · cases q2
theorem q_lcC (ht : TgD X.K cA g m sl) (hsl : ∀ i ∈ sl, i ∈ own.map (·.2)) (hc : X.calm = true) (hN : X.N.Nodup) (hi : PE X it (tE X.K cA W mi)) (ok : BlkOk X.N X.env.scope scope own)
    (hg : ∀ (s : Shared) (H : Hp) (C : Addr) (cl : List (Str × Addr)) (fp : List Addr), PG (X.blk s H scope (compEnvC scope cl C X.env) fp) tg g) (hx : ∀ (s : Shared) (H : Hp) (C : Addr) (cl : List (Str × Addr)) (fp : List Addr), PTs (X.blk s H scope (compEnvC scope cl C X.env) fp) ifs (tT X.K cA WF tt))
    (he : ∀ (s : Shared) (H : Hp) (C : Addr) (cl : List (Str × Addr)) (fp : List Addr), PE (X.blk s H scope (compEnvC scope cl C X.env) fp) elt (tE X.K cA WF el)) (hs : ∀ x, foldedSetIterable it X.env x = pure x := by intro _; rfl) :
    PE X (.ListComp elt [⟨tg, it, ifs, 0⟩] scope pos) (tE X.K cA W (eCel (eLc mi m tt el (own.map (·.2))))) := PEi (pe_lc hc hN (pi_any hi) ok hg hx he hs) (lc_anyC ht hsl)
theorem s_setLcC {i : Nat} {y : Str} {py spos : Pos} (ht : TgD X.K cA g m sl) (hsl : ∀ i ∈ sl, i ∈ own.map (·.2)) (hc : X.calm = true) (hN : X.N.Nodup) (hy : X.N[i]? = some y) (hyl : X.env.scope.names.lookup y = some .local)
    (hsw : swapsWith (.ListComp elt [⟨tg, it, ifs, 0⟩] scope pos) (some (.Name y py)) spos.line X.env = pure true) (hi : PE X it (tE X.K cA W mi)) (ok : BlkOk X.N X.env.scope scope own)
    (hg : ∀ (s : Shared) (H : Hp) (C : Addr) (cl : List (Str × Addr)) (fp : List Addr), PG (X.blk s H scope (compEnvC scope cl C X.env) fp) tg g) (hx : ∀ (s : Shared) (H : Hp) (C : Addr) (cl : List (Str × Addr)) (fp : List Addr), PTs (X.blk s H scope (compEnvC scope cl C X.env) fp) ifs (tT X.K cA WF tt))
    (he : ∀ (s : Shared) (H : Hp) (C : Addr) (cl : List (Str × Addr)) (fp : List Addr), PE (X.blk s H scope (compEnvC scope cl C X.env) fp) elt (tE X.K cA WF el)) (hs : ∀ x, foldedSetIterable it X.env x = pure x := by intro _; rfl) :
    PS X (.Assign [.Name y py] (.ListComp elt [⟨tg, it, ifs, 0⟩] scope pos) spos) (tS X.K cA W (sSet i (eCel (eLc mi m tt el (own.map (·.2)))))) :=
  PSi (ps_setLc hc hN hy hyl hsw (pi_any hi) ok hg hx he hs) fun D' σ H ⟨B, ι, e, S, re, p⟩ => lc_anyC ht hsl σ H _ (.of re (po_bindS re p fun ι1 v1 H1 d1 S1 f1 r1 rd1 p1 => p1 ι1 _ H1 Fr.refl (r1.set rd1)))
theorem lc_rgsC (hg : TgD X.K cA g m sl) (hsl : ∀ i ∈ sl, i ∈ own.map (·.2))
    (hw : ∀ σ H (R : It → Hp → Prop), (tA X.K cA W xs σ H fun vs H1 => ∃ B ι ds lo n, RDs X.K cA B ι H1 ds vs ∧ (∃ e S S', xs e S = .ok ds S') ∧ rgs ds = some (lo, n) ∧ R (Itr lo n) H1) → wi σ H R) :
    ∀ σ H Q, tE X.K cA W (eCel (eLcG xs m tt el (own.map (·.2)))) σ H Q → tLc wi g (tT X.K cA WF tt) (tE X.K cA WF el) (own.map (·.2)) σ H Q := fun σ H Q ⟨B, ι, e, S, re, p⟩ => by
  unfold eCel eLcG at p
  refine hw σ H _ (.of re ?_)
  cases q : xs e S with
  | bad => rw [q] at p; exact p.elim
  | exc c S1 => rw [q] at p; exact p
  | ok ds S1 =>
    rw [q] at p
    simp only at p
    intro ι1 vs H1 f1 rs1 rd1
    split at p
    · rename_i lo n hr
      refine ⟨B, ι1, ds, lo, n, rd1, ⟨e, S, S1, q⟩, hr, fun p' np => ?_⟩
      exact lc_wkC (W := W) (C := fun _ => True) (g := g) (m := m) (tt := tt) (el := el) (own := own.map (·.2)) (Q := Q) (wk_rng (lo := lo) (n := n)) hg hsl np (fun _ _ _ _ _ _ => True.intro) (re.fr f1 rs1) (PoE.on' f1 p)
    · exact p.elim
theorem q_lcGC (hw : ∀ σ H (R : It → Hp → Prop), (tA X.K cA W xs σ H fun vs H1 => ∃ B ι ds lo n, RDs X.K cA B ι H1 ds vs ∧ (∃ e S S', xs e S = .ok ds S') ∧ rgs ds = some (lo, n) ∧ R (Itr lo n) H1) → wi σ H R)
    (ht : TgD X.K cA g m sl) (hsl : ∀ i ∈ sl, i ∈ own.map (·.2)) (hc : X.calm = true) (hN : X.N.Nodup) (hi : PI X tg it wi) (ok : BlkOk X.N X.env.scope scope own)
    (hg : ∀ (s : Shared) (H : Hp) (C : Addr) (cl : List (Str × Addr)) (fp : List Addr), PG (X.blk s H scope (compEnvC scope cl C X.env) fp) tg g) (hx : ∀ (s : Shared) (H : Hp) (C : Addr) (cl : List (Str × Addr)) (fp : List Addr), PTs (X.blk s H scope (compEnvC scope cl C X.env) fp) ifs (tT X.K cA WF tt))
    (he : ∀ (s : Shared) (H : Hp) (C : Addr) (cl : List (Str × Addr)) (fp : List Addr), PE (X.blk s H scope (compEnvC scope cl C X.env) fp) elt (tE X.K cA WF el)) (hs : ∀ x, foldedSetIterable it X.env x = pure x := by intro _; rfl) :
    PE X (.ListComp elt [⟨tg, it, ifs, 0⟩] scope pos) (tE X.K cA W (eCel (eLcG xs m tt el (own.map (·.2))))) := PEi (pe_lc hc hN hi ok hg hx he hs) (lc_rgsC ht hsl hw)
theorem s_setLcGC {i : Nat} {y : Str} {py spos : Pos} (hw : ∀ σ H (R : It → Hp → Prop), (tA X.K cA W xs σ H fun vs H1 => ∃ B ι ds lo n, RDs X.K cA B ι H1 ds vs ∧ (∃ e S S', xs e S = .ok ds S') ∧ rgs ds = some (lo, n) ∧ R (Itr lo n) H1) → wi σ H R)
    (ht : TgD X.K cA g m sl) (hsl : ∀ i ∈ sl, i ∈ own.map (·.2)) (hc : X.calm = true) (hN : X.N.Nodup) (hy : X.N[i]? = some y) (hyl : X.env.scope.names.lookup y = some .local)
    (hsw : swapsWith (.ListComp elt [⟨tg, it, ifs, 0⟩] scope pos) (some (.Name y py)) spos.line X.env = pure true) (hi : PI X tg it wi) (ok : BlkOk X.N X.env.scope scope own)
    (hg : ∀ (s : Shared) (H : Hp) (C : Addr) (cl : List (Str × Addr)) (fp : List Addr), PG (X.blk s H scope (compEnvC scope cl C X.env) fp) tg g) (hx : ∀ (s : Shared) (H : Hp) (C : Addr) (cl : List (Str × Addr)) (fp : List Addr), PTs (X.blk s H scope (compEnvC scope cl C X.env) fp) ifs (tT X.K cA WF tt))
    (he : ∀ (s : Shared) (H : Hp) (C : Addr) (cl : List (Str × Addr)) (fp : List Addr), PE (X.blk s H scope (compEnvC scope cl C X.env) fp) elt (tE X.K cA WF el)) (hs : ∀ x, foldedSetIterable it X.env x = pure x := by intro _; rfl) :
    PS X (.Assign [.Name y py] (.ListComp elt [⟨tg, it, ifs, 0⟩] scope pos) spos) (tS X.K cA W (sSet i (eCel (eLcG xs m tt el (own.map (·.2)))))) :=
  PSi (ps_setLc hc hN hy hyl hsw hi ok hg hx he hs) fun D' σ H ⟨B, ι, e, S, re, p⟩ => lc_rgsC ht hsl hw σ H _ (.of re (po_bindS re p fun ι1 v1 H1 d1 S1 f1 r1 rd1 p1 => p1 ι1 _ H1 Fr.refl (r1.set rd1)))
end
end
end DL

/-! The data layer: tuple * int for none and one, list * int, lists that are cells of their own. -/
namespace DL
open PySem PySem.Spec PyProof.Rows L2
theorem tuple_mul1 (l : Addr) (items : Array Value) (n : Nat) (dd : Option Addr) (sl : Array (Option Value)) (u : Tok) :
    Meets (Builtin.«tuple.__mul__» ⟨[.ref l, .int 1 u], []⟩) (fun _ R s => s.heap.get? l = some { cls := .type "tuple", dict := dd, data := .seq items n, slots := sl } ∧
      R (.ok (.ret (Value.ref l))) s) :=
  .of_wp fun prog w A R s h => by
    obtain ⟨hp, g, d, tk, os⟩ := s
    obtain ⟨hl, h⟩ := h
    have f1 := AutoSeq1.idx_int
    have c0 : (decide ((1 : Int) < -(2 ^ 63)) || decide ((1 : Int) ≥ 2 ^ 63)) = false := by decide
    have c1 : (items.isEmpty || (1 : Int) == 1) = true := by simp
    wp_walk using wpAny_loadPart' hl
    exact ⟨_, rfl, h⟩
theorem tuple_mul0 (l : Addr) (items : Array Value) (n : Nat) (dd : Option Addr) (sl : Array (Option Value)) (u : Tok) (hne : items.isEmpty = false) :
    Meets (Builtin.«tuple.__mul__» ⟨[.ref l, .int 0 u], []⟩) (fun _ R s => s.heap.get? l = some { cls := .type "tuple", dict := dd, data := .seq items n, slots := sl } ∧
      R (.ok (.ret (Value.ref s.heap.objs.size))) { s with heap := s.heap.push { cls := Value.type "tuple", data := Data.seq #[] }, toks := s.toks }) :=
  .of_wp fun prog w A R s h => by
    obtain ⟨hp, g, d, tk, os⟩ := s
    obtain ⟨hl, h⟩ := h
    have f1 := AutoSeq1.idx_int
    have c0 : (decide ((0 : Int) < -(2 ^ 63)) || decide ((0 : Int) ≥ 2 ^ 63)) = false := by decide
    have c1 : (items.isEmpty || (0 : Int) == 1) = false := by simp [hne]
    wp_walk using wpAny_loadPart' hl
    exact ⟨_, rfl, h⟩
def rRepT1 (K : PySem.W.Frag) : R2 := fun x y H Q => ∃ l xs, x = .ref l ∧ y = .int 1 ∧ SqT K H l xs ∧ Q (.ref l) H
def rRepT0 (K : PySem.W.Frag) : R2 := fun x y H Q => ∃ l xs, x = .ref l ∧ y = .int 0 ∧ SqT K H l xs ∧ xs ≠ [] ∧ ∀ p, H p = none → Q (.ref p) (upd H p (.tup []))
section
variable {X : Cx}
theorem op_repT1 : OpR X (binaryOp .Mult) (rRepT1 X.K) := by
  intro pins s σ H x y v u Q I rx ry h
  obtain ⟨l, xs, rfl, rfl, hT, q⟩ := h
  cases rx
  obtain ⟨t, rfl⟩ := ry
  obtain ⟨its, r, ⟨⟨cls, dd, data, sl⟩, ho, hc, n, hd⟩, hs⟩ := I.tuple hT
  simp only at hc hd
  subst hc hd
  refine wpAny_binaryOp_repeat_ref (T := "tuple") (U := "int") (by decide) ⟨_, ho, rfl⟩ (fun s' => typeIs_int s' 1 t) noFill_tuple_mul F.fills_int_mul F.slot_int_rmul repeat_tuple F.slot_int_index.lookup
    (call_meets F.slot_int_rmul (typeIs_int s 1 t) F.entry_int_rmul (F.args_int_rmul_2 _ _) (int_rmul_tuple 1 t l its.toArray n dd sl)
      ⟨ho, rfl, ⟨_, ho, rfl⟩, call_meets F.slot_tuple_mul ⟨_, ho, rfl⟩ F.entry_tuple_mul (F.args_tuple_mul_2 _ _) (tuple_mul1 l its.toArray n dd sl t) ⟨ho, ?_⟩⟩)
  exact ⟨.ref l, H, I, rfl, q⟩
theorem op_repT0 : OpR X (binaryOp .Mult) (rRepT0 X.K) := by
  intro pins s σ H x y v u Q I rx ry h
  obtain ⟨l, xs, rfl, rfl, hT, hne, q⟩ := h
  cases rx
  obtain ⟨t, rfl⟩ := ry
  obtain ⟨its, r, ⟨⟨cls, dd, data, sl⟩, ho, hc, n, hd⟩, hs⟩ := I.tuple hT
  simp only at hc hd
  subst hc hd
  have hle : its.length = xs.length := r.length.symm
  have hn : its ≠ [] := fun e => hne (by
    rw [e] at hle
    exact List.eq_nil_of_length_eq_zero hle.symm)
  have hi : its.toArray.isEmpty = false := by
    cases its with
    | nil => exact absurd rfl hn
    | cons a b => rfl
  refine wpAny_binaryOp_repeat_ref (T := "tuple") (U := "int") (by decide) ⟨_, ho, rfl⟩ (fun s' => typeIs_int s' 0 t) noFill_tuple_mul F.fills_int_mul F.slot_int_rmul repeat_tuple F.slot_int_index.lookup
    (call_meets F.slot_int_rmul (typeIs_int s 0 t) F.entry_int_rmul (F.args_int_rmul_2 _ _) (int_rmul_tuple 0 t l its.toArray n dd sl)
      ⟨ho, rfl, ⟨_, ho, rfl⟩, call_meets F.slot_tuple_mul ⟨_, ho, rfl⟩ F.entry_tuple_mul (F.args_tuple_mul_2 _ _) (tuple_mul0 l its.toArray n dd sl t hi) ⟨ho, ?_⟩⟩)
  refine ⟨.ref s.heap.objs.size, _, I.laid (t' := s.toks) (o := .tup []) (fun b ob q => Heap.get?_push_of_some _ q) (Nat.le_refl _) ?_, rfl, q _ (I.hok.fresh (Nat.le_refl _))⟩
  exact ⟨by rw [sizeLine_eq]; decide, _, .nil, IsTup.new _ _⟩
end
section
variable {X : Cx} {K : PySem.W.Frag} {cA : Str → Addr} {W : WX} {B : Addr → Prop} {ι : List Addr} {S : Sto} {H : Hp} {a b : Expr} {ma mb : ME} {pos : Pos} {es : List Expr} {xs : MA}
def gMulT (S : Sto) (a b : D) : Option D := match a, b with
  | .tup xs, .int k => if xs ≠ [] ∧ 0 ≤ k ∧ k ≤ 1000 ∧ xs.length ≤ 1000 then some (.tup (List.replicate k.toNat xs).flatten) else none
  | _, _ => none
theorem o_mulT : O2 X (binaryOp .Mult) gMulT := o_mk (op_repT.or (op_repT1.or op_repT0)) fun cA B ι S H x y a b d Q rs ra rb hg q => by
  unfold gMulT at hg
  split at hg
  · rename_i xs k
    split at hg
    · rename_i hz
      cases hg
      obtain ⟨p, us, rfl, h1, r1⟩ := ra.tup
      have hne : us ≠ [] := fun z => by
        subst z
        refine hz.1 ?_
        have := r1.len
        cases xs with
        | nil => rfl
        | cons _ _ => simp at this
      by_cases k1 : k = 1
      · subst k1
        exact .inr (.inl ⟨p, us, rfl, rb.int, h1.sq, q _ _ same_refl (by simpa using RD.mk_tup h1 r1)⟩)
      · by_cases k0 : k = 0
        · subst k0
          exact .inr (.inr ⟨p, us, rfl, rb.int, h1.sq, hne, fun n np => q _ _ (same_new np) (new_tup rs np .nil)⟩)
        · exact .inl ⟨p, k, us, rfl, rb.int, h1.sq, hne, by omega, hz.2.2.1, by rw [← r1.len]; exact hz.2.2.2, fun n np => q _ _ (same_new np) (new_tup rs np (r1.rep _))⟩
    · cases hg
  · cases hg
def gMulL (S : Sto) (a b : D) : Option D := match a, b with
  | .lst xs, .int k => if 0 ≤ k ∧ k ≤ 1000 ∧ xs.length ≤ 1000 then some (.lst (List.replicate k.toNat xs).flatten) else none
  | _, _ => none
theorem o_mulL : O2 X (binaryOp .Mult) gMulL := o_mk op_rep fun cA B ι S H x y a b d Q rs ra rb hg q => by
  unfold gMulL at hg
  split at hg
  · rename_i xs k
    split at hg
    · rename_i hz
      cases hg
      obtain ⟨p, us, rfl, h1, r1⟩ := ra.lst
      refine ⟨p, k, us, rfl, rb.int, h1.2.2, by omega, by omega, ?_, fun n np => q _ _ (same_new np) (new_lst rs np (r1.rep _))⟩
      rw [sizeL, ← r1.len]
      have a1 : xs.length * k.toNat ≤ 1000 * 1000 := Nat.mul_le_mul hz.2.2 (by omega)
      omega
    · cases hg
  · cases hg
/-! ### a list that comes as a cell of its own -/
structure O2C (X : Cx) (f : Value → Value → Sem Value) (g : Sto → D → D → Option D) : Prop where
  ex : ∃ r : R2, OpR X f r ∧ ∀ (cA : Str → Addr) (B : Addr → Prop) (ι : List Addr) (S : Sto) (H : Hp) (x y : V) (a b : D) (ds : List D) (Q : VK), RS X.K cA B ι S H → RD X.K cA B ι H a x → RD X.K cA B ι H b y → g S a b = some (.lst ds) →
    (∀ n vs, H n = none → RDs X.K cA B ι H ds vs → Q (.ref n) (upd H n (.lst vs))) → r x y H Q
theorem po_cel {o : Option D} {σ : L2.St} {Q : VK} (h : PoE K cA W B (cel (opt o S)) ι σ H Q) (rs : RS K cA B ι S H) : ∃ ds, o = some (.lst ds) ∧ ∀ n vs, H n = none → RDs K cA B ι H ds vs → Q (.ref n) (upd H n (.lst vs)) := by
  cases o with
  | none => exact h.elim
  | some d =>
    cases d with
    | lst ds =>
      refine ⟨ds, rfl, fun n vs np rd => ?_⟩
      have fr : Fr ι (ι ++ [n]) H (upd H n (.lst vs)) := Fr.push (not_in rs np) np
      exact h _ _ _ fr (rs.push np ⟨vs, upd_same, RDs.fr fr _ _ rd⟩) (.mk_obj (by rw [← rs.len, List.getElem?_append_right (Nat.le_refl _)]; simp))
    | _ => exact h.elim
theorem cel_bind {r : RE} {f : D → Sto → RE} : cel (r.bind f) = r.bind fun d S => cel (f d S) := by cases r <;> rfl
theorem cel_bindA {r : RA} {f : List D → Sto → RE} : cel (r.bind f) = r.bind fun d S => cel (f d S) := by cases r <;> rfl
theorem q_opN {op : Operator} {g : Sto → D → D → Option D} (ho : O2C X (binaryOp op) g) (ha : PE X a (tE X.K cA W ma)) (hb : PE X b (tE X.K cA W mb)) : PE X (.BinOp a op b pos) (tE X.K cA W (eCel (e2 g ma mb))) :=
  let ⟨r, h1, h2⟩ := ho.ex; PEi (pe_op h1 ha hb) fun σ H Q ⟨B, ι, e, S, re, p⟩ => by
    have p' : PoE X.K cA W B ((ma e S).bind fun x S1 => (mb e S1).bind fun y S2 => cel (opt (g S2 x y) S2)) ι σ H Q := by
      have e1 : eCel (e2 g ma mb) e S = (ma e S).bind fun x S1 => (mb e S1).bind fun y S2 => cel (opt (g S2 x y) S2) := by
        show cel ((ma e S).bind fun x S1 => (mb e S1).bind fun y S2 => opt (g S2 x y) S2) = _
        rw [cel_bind]
        congr
        funext x S1
        rw [cel_bind]
      rw [← e1]; exact p
    exact .of re (po_bind re p' fun ι1 v1 H1 d1 S1 f1 r1 rd1 p1 => .of r1 (po_bind r1 p1 fun ι2 v2 H2 d2 S2 f2 r2 rd2 p2 => by
      obtain ⟨ds, hd, q⟩ := po_cel p2 r2.rs
      exact h2 cA B ι2 S2 H2 v1 v2 d1 d2 ds Q r2.rs (RD.fr f2 _ _ rd1) rd2 hd q))
theorem oC_add : O2C X (binaryOp .Add) gAdd := ⟨rCatL, op_catL, fun cA B ι S H x y a b ds Q rs ra rb hg q => by
  unfold gAdd at hg
  split at hg
  · cases hg
  · split at hg <;> cases hg
  · split at hg <;> cases hg
  · rename_i xs ys e1 e2
    split at hg
    · rename_i hz
      cases hg
      obtain ⟨p, us, rfl, h1, r1⟩ := v_lstR rs ra e1 hz.1.2
      obtain ⟨p2, us2, rfl, h2, r2⟩ := v_lstR rs rb e2 hz.2
      exact ⟨p, p2, us, us2, rfl, rfl, .inl h1, .inl h2, by rw [sizeL, ← r1.len, ← r2.len]; exact hz.1.1, fun n np => q _ _ np (r1.append r2)⟩
    · cases hg
  · cases hg⟩
structure CBC (X : Cx) (f : Value) (g : Sto → List D → Option D) : Prop where
  ex : ∃ r : List V → Hp → VK → Prop, CallR X f r ∧ ∀ (cA : Str → Addr) (B : Addr → Prop) (ι : List Addr) (S : Sto) (H : Hp) (xs : List V) (ds es : List D) (Q : VK), RS X.K cA B ι S H → RDs X.K cA B ι H ds xs → g S ds = some (.lst es) →
    (∀ n vs, H n = none → RDs X.K cA B ι H es vs → Q (.ref n) (upd H n (.lst vs))) → r xs H Q
theorem cC_list : CBC X (.type "list") gList := ⟨_, call_list_of, fun cA B ι S H xs ds es Q rs rd hg q => by
  unfold gList at hg
  split at hg
  · obtain ⟨v, rfl, rd1⟩ := rd.one
    split at hg
    · rename_i z e
      cases hg
      obtain ⟨p, us, rfl, h3, r⟩ := v_tup rd1 e
      exact ⟨p, us, rfl, .inr h3.sq, fun n np => q _ _ np r⟩
    · rename_i z e
      cases hg
      obtain ⟨p, us, rfl, h3, r⟩ := v_lst rs rd1 e
      exact ⟨p, us, rfl, .inl h3, fun n np => q _ _ np r⟩
    · cases hg
  · cases hg⟩
theorem q_callTN {x : Str} {p : Pos} {T : String} {g : Sto → List D → Option D} (hc : CBC X (.type T) g) (hg : Gl X x) (hm : X.mg x = none) (hv : bootBuiltins x = some (.type T)) (ha : PA X (a :: es) (tA X.K cA W xs)) (hn : x ≠ "__name__" := by decide) (hdb : (x == ("__debug__" : Str)) = false := by decide)
    (he : starEach (a :: es) X.env = (false, eval a X.env) :: starEach es X.env := by rfl) (hpl : (backTo pos (starEach es X.env)).any (·.1) = false := by rfl) : PE X (.Call (.Name x p) (a :: es) [] pos) (tE X.K cA W (eCel (eB g xs))) :=
  let ⟨r, h1, h2⟩ := hc.ex; PEi (pe_callTy h1 hg hm hv ha hn hdb he hpl) fun σ H Q ⟨B, ι, e, S, re, p⟩ => by
    have p' : PoE X.K cA W B ((xs e S).bind fun ds S1 => cel (opt (g S1 ds) S1)) ι σ H Q := by
      rw [← cel_bindA]; exact p
    exact .of re (poA_bind re p' fun ι1 vs H1 ds S1 f1 r1 rd1 p1 => by
      obtain ⟨es', hd, q⟩ := po_cel p1 r1.rs
      exact h2 cA B ι1 S1 H1 vs ds es' Q r1.rs rd1 hd q)
theorem k_cel {m : ME} {e : En} {S : Sto} {Q : QE} {X : QX} (k : OkE (m e S) (fun d S' => ∃ ds, d = .lst ds ∧ Q (.obj S'.length) (S' ++ [.lst ds])) X) : OkE (eCel m e S) Q X := by
  unfold eCel
  revert k
  cases m e S with
  | bad => exact _root_.id
  | exc c S1 => exact _root_.id
  | ok d S1 => rintro ⟨ds, rfl, h⟩; exact h
theorem k_mulT {S : Sto} {Q : QE} {X : QX} {xs : List D} {k : Int} (h : xs ≠ [] ∧ 0 ≤ k ∧ k ≤ 1000 ∧ xs.length ≤ 1000) (q : Q (.tup (List.replicate k.toNat xs).flatten) S) : OkE (opt (gMulT S (.tup xs) (.int k)) S) Q X := by
  simp only [gMulT]
  rw [if_pos h]; exact q
theorem k_mulL {S : Sto} {Q : QE} {X : QX} {xs : List D} {k : Int} (h : 0 ≤ k ∧ k ≤ 1000 ∧ xs.length ≤ 1000) (q : Q (.lst (List.replicate k.toNat xs).flatten) S) : OkE (opt (gMulL S (.lst xs) (.int k)) S) Q X := by
  simp only [gMulL]
  rw [if_pos h]; exact q
theorem k_mulS {S : Sto} {Q : QE} {X : QX} {z : Str} {k : Int} (h : k < 2147483648 ∧ -2147483648 < k ∧ k.toNat * z.length ≤ 16777216) (q : Q (.str (srep z k.toNat)) S) : OkE (opt (gMul S (.str z) (.int k)) S) Q X := by
  rw [gMul_str h]; exact q
end
end DL

/-! The data layer: instances of the program's own classes. -/
namespace DL
open PySem PySem.Spec PyProof.Rows L2
/-! ### calls of methods, of classes: what leaves them is told at the slots -/
def rdMeth (C : Addr) (m : Str) (sp : Sp) (E : L2.St → XK) (ta : TE) (t : TA) : TE := fun σ H Q => ta σ H fun x H1 => ∃ a dx fs, x = .ref a ∧ H1 a = some (.ins C dx fs) ∧ fs.lookup m = none ∧ t σ H1 fun vs H2 => sp (x :: vs) H2 Q (E σ)
def rdMake (C : Addr) (sp : Sp) (E : L2.St → XK) (t : TA) : TE := fun σ H Q => t σ H fun vs H1 => ∀ x dx, H1 x = none → H1 dx = none → dx ≠ x →
  sp (.ref x :: vs) (upd (upd H1 dx (.own x)) x (.ins C dx [])) (fun v H2 => v = .non ∧ Q (.ref x) H2) (E σ)
section
variable {X : Cx} {CX : CXT} {k : Nat} {f C : Addr} {fd : FuncData} {ps : List Str} {sp : Sp} {E : L2.St → XK} {x m : Str} {p pos apos : Pos} {e o : Expr} {es : List Expr} {ta : TE} {t : TA}
theorem p_meth {pl : Sem Bool} (he : PE X o ta) (c : Cls X.K C) (hm : Meth X.K C m f) (F : FnOk X.prog X.w X.K X.mg X.base CX k f fd ps sp) (hr : Room k X.A) (hb : Binds X.K fd ps [])
    (hx : ∀ σ, PassesAt CX X σ (E σ)) (ha : PA X (e :: es) t)
    (hst : starEach (e :: es) X.env = (false, eval e X.env) :: starEach es X.env := by rfl)
    (hpl : (backTo pos (starEach es X.env)).any (·.1) = false := by rfl)
    (ht : eval (.Call (.Attribute o m apos) (e :: es) [] pos) X.env = (do
      let ov ← eval o X.env
      standAt apos.atName
      let (g, one) ← holding [ov] (getMethod ov m pl)
      callWith pos g one (backTo pos (starEach (e :: es) X.env)) (backToKw pos (keywordEach [] X.env))) := by rfl) :
    PE X (.Call (.Attribute o m apos) (e :: es) [] pos) (rdMeth C m sp E ta t) := by
  constructor
  intro pins s σ H Q I h
  refine PySem.W.methodCall_KW (pl := pl) (thn (he.run pins s σ H _ I h) fun u s1 hq => ?_) ht
  obtain ⟨x, H1, I1, rx, a, dx, fs, rfl, ea, l, q⟩ := hq
  cases (show u = Value.ref a from rx)
  refine getmeth_ok I1 ea c hm l (PySem.W.callWith_K (first := [.ref a]) (h₀ := X.base) I.ok.mod.kin hm.kp (thn (ha.run pos pins s1 σ H1 _ I1 q) fun us s2 hv => ?_) hst hpl)
  obtain ⟨vs, H2, I2, r, q2⟩ := hv
  exact ⟨I2.kIn, run_fnS (us := .ref a :: us) (vs := .ref a :: vs) F hr hb (hx σ) I2 (.cons rfl r) q2⟩
theorem p_meth0 {pl : Sem Bool} (he : PE X o ta) (c : Cls X.K C) (hm : Meth X.K C m f) (F : FnOk X.prog X.w X.K X.mg X.base CX k f fd ps sp) (hr : Room k X.A) (hb : Binds X.K fd ps [])
    (hx : ∀ σ, PassesAt CX X σ (E σ))
    (ht : eval (.Call (.Attribute o m apos) [] [] pos) X.env = (do
      let ov ← eval o X.env
      standAt apos.atName
      let (g, one) ← holding [ov] (getMethod ov m pl)
      callWith pos g one (backTo pos (starEach [] X.env)) (backToKw pos (keywordEach [] X.env))) := by rfl) :
    PE X (.Call (.Attribute o m apos) [] [] pos) (rdMeth C m sp E ta tNil) := by
  constructor
  intro pins s σ H Q I h
  refine PySem.W.methodCall_KW (pl := pl) (thn (he.run pins s σ H _ I h) fun u s1 hq => ?_) ht
  obtain ⟨x, H1, I1, rx, a, dx, fs, rfl, ea, l, q⟩ := hq
  cases (show u = Value.ref a from rx)
  exact getmeth_ok I1 ea c hm l (PySem.W.callWith_K0 (first := [.ref a]) I1.kIn hm.kp (run_fnS (us := [.ref a]) (vs := [.ref a]) F hr hb (hx σ) I1 (.cons rfl .nil) q))
theorem run_mk {pins : List (Addr × Obj)} {σ : L2.St} {H : Hp} {s : Shared} {Q : VK} {us : List Value} {vs : List V} (M : Mk X.K C f) (F : FnOk X.prog X.w X.K X.mg X.base CX k f fd ps sp) (hr : Room (k + 1) X.A) (hb : Binds X.K fd ps [])
    (hx : PassesAt CX X σ (E σ)) (I : Inv X pins σ H s) (r : Vals vs us)
    (h : ∀ x dx, H x = none → H dx = none → dx ≠ x → sp (.ref x :: vs) (upd (upd H dx (.own x)) x (.ins C dx [])) (fun v H2 => v = .non ∧ Q (.ref x) H2) (E σ)) :
    wpAny (model X.prog X.w) X.A (call (.ref C) us) (EP X pins σ Q) X.xe s := by
  have q0 := h (s.heap.objs.size + 1) s.heap.objs.size (I.hok.fresh (Nat.le_succ _)) (I.hok.fresh (Nat.le_refl _)) (Nat.ne_of_lt (Nat.lt_succ_self _))
  have J := Inv.made (C := C) I
  have r2 : Vals (V.ref (s.heap.objs.size + 1) :: vs) (Value.ref (s.heap.objs.size + 1) :: us) := .cons rfl r
  have hl : (Value.ref (s.heap.objs.size + 1) :: us).length = ps.length := by
    rw [← r2.length]; exact F.len _ _ _ _ q0
  have b := hb _ (Value.ref (s.heap.objs.size + 1) :: us) J.kIn (by rw [List.append_nil]; exact hl)
  rw [List.append_nil] at b
  refine wpAny_call (make_map (f := f) I.kIn M.makes M.init (beq_iff_eq.mp M.fn) (codeAny_mono (F.run _ X.stack _ _ _ _ _ _ (E σ) (hr.make C us []) (J.env0.make C us []) b r2 q0) fun r s' hq => ?_))
  match r, hq with
  | .error e, hq => exact hx pins _ _ e s' J hq
  | .ok .next, hq => exact hq.elim
  | .ok .brk, hq => exact hq.elim
  | .ok .cont, hq => exact hq.elim
  | .ok (.ret u), hq =>
    obtain ⟨v, H', J3, rv, rfl, q3⟩ := J.after hq
    exact ⟨rv, V.ref (s.heap.objs.size + 1), H', J3, rfl, q3⟩
theorem p_make (M : Mk X.K C f) (F : FnOk X.prog X.w X.K X.mg X.base CX k f fd ps sp) (hr : Room (k + 1) X.A) (hg : Gl X x) (hm : X.mg x = some (.ref C)) (hb : Binds X.K fd ps []) (hx : ∀ σ, PassesAt CX X σ (E σ)) (ha : PA X (e :: es) t)
    (hdb : (x == ("__debug__" : Str)) = false := by decide)
    (hst : starEach (e :: es) X.env = (false, eval e X.env) :: starEach es X.env := by rfl)
    (hpl : (backTo pos (starEach es X.env)).any (·.1) = false := by rfl) : PE X (.Call (.Name x p) (e :: es) [] pos) (rdMake C sp E t) := by
  constructor
  intro pins s σ H Q I h
  refine wpAny_Call_Name_kw (ld_glob I hg hm ?_ hdb)
  refine PySem.W.callWith_K (h₀ := X.base) I.ok.mod.kin M.kp (thn (ha.run pos pins s σ H _ I h) fun us s1 hv => ?_) hst hpl
  obtain ⟨vs, H1, I1, r, q⟩ := hv
  exact ⟨I1.kIn, run_mk M F hr hb (hx σ) I1 r q⟩
theorem p_make0 (M : Mk X.K C f) (F : FnOk X.prog X.w X.K X.mg X.base CX k f fd ps sp) (hr : Room (k + 1) X.A) (hg : Gl X x) (hm : X.mg x = some (.ref C)) (hb : Binds X.K fd ps []) (hx : ∀ σ, PassesAt CX X σ (E σ))
    (hdb : (x == ("__debug__" : Str)) = false := by decide) : PE X (.Call (.Name x p) [] [] pos) (rdMake C sp E tNil) := by
  constructor
  intro pins s σ H Q I h
  refine wpAny_Call_Name_kw (ld_glob I hg hm ?_ hdb)
  exact PySem.W.callWith_K0 I.kIn M.kp (run_mk (us := []) M F hr hb (hx σ) I .nil h)
end
/-! ### methods by their names -/
structure FM (P : Program) (w : World) (K : PySem.W.Frag) (mg : Str → Option Value) (base : Heap) (cA : Str → Addr) (k : Nat) (C m : Str) (n : Nat) (mf : MF) : Prop where
  ex : ∃ (f : Addr) (fd : FuncData) (ps : List Str), FnOk P w K mg base (L2.CX P w) k f fd ps (spM K cA n mf) ∧ Meth K (cA C) m f ∧ Binds K fd ps []
section
variable {K : PySem.W.Frag} {cA : Str → Addr} {P : Program} {w : World} {mg : Str → Option Value} {base : Heap}
theorem fm_mk {C m q : Str} {sd : Stmt} {f : Addr} {fd : FuncData} {N ps : List Str} {k : Nat} {body : MS} (F : Fun K m q sd f fd) (hm : Meth K (cA C) m f) (b : Binds K fd ps []) (sc : FnScope N ps (defScope sd))
    (hb : ∀ (cdv : Value) (A : Around) (outer : List Env) (s : Shared) (H : Hp) (E : XK), Room k (A.deeper (envOfC q (defScope sd) s.heap.objs.size f cdv)) →
      PSs (cxOf (L2.CX P w) P w K mg base N q (defScope sd) f cdv A outer s H E) (defBody sd) (tS K cA (fun c d _ H' => E c d H') body)) : FM P w K mg base cA (k + 1) C m ps.length (fnK N.length body) :=
  ⟨f, fd, ps, F.okX sc (fun vs H Q E h => spM_len h) (fun cdv A outer s H vs Q E hr h => ⟨_, hb cdv A outer s H E hr, by
    obtain ⟨B, ι, ds, S, h1, h2, h3, h4⟩ := h
    exact body_ok h2 h3 h4⟩), hm, b⟩
theorem FM.imp {k n : Nat} {C x : Str} {m m' : MF} (F : FM P w K mg base cA k C x n m) (h : ∀ B ι ds S H Q E, RS K cA B ι S H → PoF K cA B (m' ds S) ι H Q E → PoF K cA B (m ds S) ι H Q E) : FM P w K mg base cA k C x n m' := by
  obtain ⟨f, fd, ps, h1, h2⟩ := F.ex
  exact ⟨f, fd, ps, h1.imp fun vs H Q E hh => by
    obtain ⟨B, ι, ds, S, h3, h4, h5, h6⟩ := hh
    exact ⟨B, ι, ds, S, h3, h4, h5, h _ _ _ _ _ _ _ h5 h6⟩, h2⟩
theorem FM.drop {k n N : Nat} {C x : Str} {body : MS} (F : FM P w K mg base cA k C x n (fnK N body)) : FM P w K mg base cA k C x n (fnD N body) := F.imp fun _ _ _ _ _ _ _ r h => h.drop r.len.symm
end
/-- a class that is made by __init__ -/
structure FC (K : PySem.W.Frag) (mg : Str → Option Value) (cA : Str → Addr) (C : Str) : Prop where
  cl : Cls K (cA C)
  mg : mg C = some (.ref (cA C))
  made : PySem.W.makesIn K (cA C) = true
  kp : PySem.W.keepIn K (.ref (cA C)) = true
section
variable {X : Cx} {K : PySem.W.Frag} {cA : Str → Addr} {W : WX} {B : Addr → Prop} {ι : List Addr} {S : Sto} {H : Hp} {a b o : Expr} {ma mb mo mv : ME} {pos apos p : Pos} {es : List Expr} {xs : MA}
/-- an instance of the class, which has no such attribute of its own -/
def isI (C m : Str) (S : Sto) : D → Bool
  | .obj k => match S[k]? with
    | some (.ins C' fs) => decide (C' = C) && (fs.lookup m).isNone
    | _ => false
  | _ => false
theorem isI_at {C m : Str} {d : D} {v : V} (rs : RS K cA B ι S H) (rd : RD K cA B ι H d v) (h : isI C m S d = true) : ∃ a dx fs, v = .ref a ∧ H a = some (.ins (cA C) dx fs) ∧ fs.lookup m = none := by
  unfold isI at h
  split at h
  · rename_i k
    split at h
    · rename_i C' fs q
      rw [Bool.and_eq_true, decide_eq_true_eq] at h
      obtain ⟨rfl, hn⟩ := h
      obtain ⟨a, h1, dx, us, h2, h3, h4⟩ := rs.at_ k _ q
      obtain ⟨a', rfl, h5⟩ := rd.obj
      rw [h1] at h5; cases h5
      refine ⟨a, dx, _, rfl, h2, ?_⟩
      have go : ∀ (fs : List (Str × D)) (us : List V), fs.length = us.length → (fs.lookup m).isNone = true → ((fs.map (·.1)).zip us).lookup m = none := by
        intro fs
        induction fs with
        | nil => intro us _ _; simp
        | cons p fs ih =>
          intro us hl hn
          cases us with
          | nil => rfl
          | cons u us =>
            rw [List.map_cons, List.zip_cons_cons, List.lookup_cons]
            rw [List.lookup_cons] at hn
            cases e : m == p.1 with
            | true => rw [e] at hn; cases hn
            | false => rw [e] at hn; exact ih us (by simpa using hl) hn
      exact go fs us h3 hn
    · cases h
  · cases h
/-- o.m(..) -/
def eMeth (C m : Str) (n : Nat) (mf : MF) (mo : ME) (am : MA) : ME := fun e S => (mo e S).bind fun o S1 => if isI C m S1 o = true then (am e S1).bind fun ds S2 => if ds.length + 1 = n then callS mf (o :: ds) S2 else .bad else .bad
theorem q_meth {C m : Str} {k j n : Nat} {mf : MF} {pl : Sem Bool} (tk : Takes X W) (F : FM X.prog X.w X.K X.mg X.base cA k C m n mf) (T : FC X.K X.mg cA C) (hr : Room j X.A) (hk : k ≤ j) (ho : PE X o (tE X.K cA W mo)) (ha : PA X (a :: es) (tA X.K cA W xs))
    (hst : starEach (a :: es) X.env = (false, eval a X.env) :: starEach es X.env := by rfl)
    (hpl : (backTo pos (starEach es X.env)).any (·.1) = false := by rfl)
    (ht : eval (.Call (.Attribute o m apos) (a :: es) [] pos) X.env = (do
      let ov ← eval o X.env
      standAt apos.atName
      let (g, one) ← holding [ov] (getMethod ov m pl)
      callWith pos g one (backTo pos (starEach (a :: es) X.env)) (backToKw pos (keywordEach [] X.env))) := by rfl) :
    PE X (.Call (.Attribute o m apos) (a :: es) [] pos) (tE X.K cA W (eMeth C m n mf mo xs)) := by
  obtain ⟨f, fd, ps, h1, h2, h3⟩ := F.ex
  refine PEi (p_meth (E := WE W) (pl := pl) ho T.cl h2 h1 (hr.mono hk) h3 (fun σ => passAt tk σ) ha hst hpl ht) fun σ H Q ⟨B, ι, e, S, re, p⟩ =>
    .of re (po_bind re p fun ι1 v1 H1 d1 S1 f1 r1 rd1 p1 => ?_)
  split at p1
  · rename_i hi
    obtain ⟨a, dx, fs, rfl, g1, g2⟩ := isI_at r1.rs rd1 hi
    refine ⟨a, dx, fs, rfl, g1, g2, .of r1 (poA_bind r1 p1 fun ι2 vs H2 ds S2 f2 r2 rd2 p2 => ?_)⟩
    split at p2
    · rename_i hn
      subst hn
      exact call_sub (ds := d1 :: ds) r2.rs (.cons (RD.fr f2 _ _ rd1) rd2) p2
    · exact p2.elim
  · exact p1.elim
theorem q_meth0 {C m : Str} {k j n : Nat} {mf : MF} {pl : Sem Bool} (tk : Takes X W) (F : FM X.prog X.w X.K X.mg X.base cA k C m n mf) (T : FC X.K X.mg cA C) (hr : Room j X.A) (hk : k ≤ j) (ho : PE X o (tE X.K cA W mo))
    (ht : eval (.Call (.Attribute o m apos) [] [] pos) X.env = (do
      let ov ← eval o X.env
      standAt apos.atName
      let (g, one) ← holding [ov] (getMethod ov m pl)
      callWith pos g one (backTo pos (starEach [] X.env)) (backToKw pos (keywordEach [] X.env))) := by rfl) :
    PE X (.Call (.Attribute o m apos) [] [] pos) (tE X.K cA W (eMeth C m n mf mo aN)) := by
  obtain ⟨f, fd, ps, h1, h2, h3⟩ := F.ex
  refine PEi (p_meth0 (E := WE W) (pl := pl) ho T.cl h2 h1 (hr.mono hk) h3 (fun σ => passAt tk σ) ht) fun σ H Q ⟨B, ι, e, S, re, p⟩ =>
    .of re (po_bind re p fun ι1 v1 H1 d1 S1 f1 r1 rd1 p1 => ?_)
  split at p1
  · rename_i hi
    obtain ⟨a, dx, fs, rfl, g1, g2⟩ := isI_at r1.rs rd1 hi
    refine ⟨a, dx, fs, rfl, g1, g2, ?_⟩
    have p2 : PoE X.K cA W B (if ([] : List D).length + 1 = n then callS mf (d1 :: []) S1 else .bad) ι1 σ H1 Q := p1
    split at p2
    · rename_i hn
      subst hn
      exact call_sub (ds := [d1]) r1.rs (.cons rd1 .nil) p2
    · exact p2.elim
  · exact p1.elim
/-- C(..) -/
def mkR (n : Nat) : RE → RE
  | .ok .non S => .ok (.obj n) S
  | .exc c S => .exc c S
  | _ => .bad
def eMake (C : Str) (n : Nat) (mf : MF) (am : MA) : ME := fun e S => (am e S).bind fun ds S1 => if ds.length + 1 = n then mkR S1.length (callS mf (.obj S1.length :: ds) (S1 ++ [.ins C []])) else .bad
theorem make_sub {C : Str} {mf : MF} {ds : List D} {vs : List V} {Q : VK} {σ : L2.St} (rs : RS K cA B ι S H) (rd : RDs K cA B ι H ds vs) (h : PoE K cA W B (mkR S.length (callS mf (.obj S.length :: ds) (S ++ [.ins C []]))) ι σ H Q) :
    ∀ x dx, H x = none → H dx = none → dx ≠ x → spM K cA (ds.length + 1) mf (.ref x :: vs) (upd (upd H dx (.own x)) x (.ins (cA C) dx [])) (fun v H2 => v = .non ∧ Q (.ref x) H2) (WE W σ) := by
  intro x dx hx hdx hne
  have sm : Same H (upd H dx (.own x)) := fun b o e => by
    rw [upd_ne (ne_of_none e hdx)]; exact e
  have rs1 := rs.same sm
  have hx1 : upd H dx (.own x) x = none := by rw [upd_ne (fun z => hne z.symm)]; exact hx
  have rs2 : RS K cA B (ι ++ [x]) (S ++ [.ins C []]) (upd (upd H dx (.own x)) x (.ins (cA C) dx [])) := rs1.push hx1 ⟨dx, [], upd_same, rfl, .nil⟩
  have hxi : x ∉ ι := not_in rs hx
  have fr : Fr ι (ι ++ [x]) H (upd (upd H dx (.own x)) x (.ins (cA C) dx [])) := (Fr.same sm).trans (Fr.push hxi hx1)
  have rdx : RD K cA B (ι ++ [x]) (upd (upd H dx (.own x)) x (.ins (cA C) dx [])) (.obj S.length) (.ref x) := .mk_obj (by rw [← rs.len, List.getElem?_append_right (Nat.le_refl _)]; simp)
  refine call_sub (W := W) (B := B) (σ := σ) (ds := .obj S.length :: ds) rs2 (.cons rdx (RDs.fr fr _ _ rd)) (js := clo (S ++ [.ins C []]) 100 (tops (.obj S.length :: ds)) []) ?_
  show PoE K cA W B (callS mf (.obj S.length :: ds) (S ++ [.ins C []])) (ι ++ [x]) σ _ _
  cases q : callS mf (.obj S.length :: ds) (S ++ [.ins C []]) with
  | bad => rw [q] at h; exact h.elim
  | exc c S2 =>
    rw [q] at h
    exact fun ι' H' f r => h ι' H' (fr.trans f) r
  | ok d S2 =>
    rw [q] at h
    cases d with
    | non => exact fun ι' v H' f r rd => ⟨rd.non, h ι' (.ref x) H' (fr.trans f) r (RD.fr f _ _ rdx)⟩
    | _ => exact h.elim
theorem q_make {C : Str} {k j n : Nat} {mf : MF} (tk : Takes X W) (F : FM X.prog X.w X.K X.mg X.base cA k C "__init__" n mf) (T : FC X.K X.mg cA C) (hr : Room j X.A) (hk : k + 1 ≤ j) (hg : Gl X C) (ha : PA X (a :: es) (tA X.K cA W xs))
    (hdb : (C == ("__debug__" : Str)) = false := by decide)
    (hst : starEach (a :: es) X.env = (false, eval a X.env) :: starEach es X.env := by rfl)
    (hpl : (backTo pos (starEach es X.env)).any (·.1) = false := by rfl) :
    PE X (.Call (.Name C p) (a :: es) [] pos) (tE X.K cA W (eMake C n mf xs)) := by
  obtain ⟨f, fd, ps, h1, h2, h3⟩ := F.ex
  refine PEi (p_make (E := WE W) ⟨T.made, h2.at_, h2.fn, T.kp⟩ h1 (hr.mono hk) hg T.mg h3 (fun σ => passAt tk σ) ha hdb hst hpl) fun σ H Q ⟨B, ι, e, S, re, p⟩ =>
    .of re (poA_bind re p fun ι1 vs H1 ds S1 f1 r1 rd1 p1 => ?_)
  split at p1
  · rename_i hn
    subst hn
    exact make_sub r1.rs rd1 p1
  · exact p1.elim
/-! ### attributes -/
def fldG (C f : Str) (S : Sto) : D → Option D
  | .obj k => match S[k]? with
    | some (.ins C' fs) => if C' = C then fs.lookup f else none
    | _ => none
  | _ => none
theorem zip_lookup {f : Str} : ∀ {fs : List (Str × D)} {us : List V} {d : D}, RDs K cA B ι H (fs.map (·.2)) us → fs.lookup f = some d → ∃ u, ((fs.map (·.1)).zip us).lookup f = some u ∧ RD K cA B ι H d u
  | [], us, d, _, h => by cases h
  | p :: fs, us, d, r, h => by
    obtain ⟨u, us, rfl, h1, h2⟩ := r.cons_inv
    rw [List.map_cons, List.zip_cons_cons, List.lookup_cons]
    rw [List.lookup_cons] at h
    cases e : f == p.1 with
    | true => rw [e] at h; cases h; exact ⟨u, rfl, h1⟩
    | false => rw [e] at h; exact zip_lookup h2 h
theorem fld_at {C f : Str} {d y : D} {v : V} (rs : RS K cA B ι S H) (rd : RD K cA B ι H d v) (h : fldG C f S d = some y) : ∃ a dx fs u, v = .ref a ∧ H a = some (.ins (cA C) dx fs) ∧ fs.lookup f = some u ∧ RD K cA B ι H y u := by
  unfold fldG at h
  split at h
  · rename_i k
    split at h
    · rename_i C' fs q
      split at h
      · rename_i hc
        subst hc
        obtain ⟨a, h1, dx, us, h2, h3, h4⟩ := rs.at_ k _ q
        obtain ⟨a', rfl, h5⟩ := rd.obj
        rw [h1] at h5; cases h5
        obtain ⟨u, g1, g2⟩ := zip_lookup h4 h
        exact ⟨a, dx, _, u, rfl, h2, g1, g2⟩
      · cases h
    · cases h
  · cases h
/-- o.f -/
def eFld (C f : Str) (mo : ME) : ME := e1 (fldG C f) mo
theorem q_fld {C f : Str} (T : FC X.K X.mg cA C) (n : NoAttr X.K (cA C) f) (ho : PE X o (tE X.K cA W mo)) (hb : attributeBase o f X.env (eval o X.env) = eval o X.env := by rfl) : PE X (.Attribute o f pos) (tE X.K cA W (eFld C f mo)) :=
  PEi (pe_fld ho hb) fun σ H Q ⟨B, ι, e, S, re, p⟩ =>
    .of re (po_bind re p fun ι1 v1 H1 d1 S1 f1 r1 rd1 p1 => by
      obtain ⟨y, hy, q⟩ := po_opt p1 r1.rs
      obtain ⟨a, dx, fs, u, rfl, g1, g2, g3⟩ := fld_at r1.rs rd1 hy
      exact ⟨a, cA C, dx, fs, u, rfl, g1, T.cl, n, g2, q _ _ same_refl g3⟩)
def putFD (f : Str) (d : D) : List (Str × D) → List (Str × D)
  | [] => [(f, d)]
  | p :: r => if p.1 = f then (p.1, d) :: r else p :: putFD f d r
theorem putFD_zip {f : Str} {d : D} {v : V} (rd : RD K cA B ι H d v) : ∀ {fs : List (Str × D)} {us : List V}, RDs K cA B ι H (fs.map (·.2)) us → ∃ us', putF f v ((fs.map (·.1)).zip us) = ((putFD f d fs).map (·.1)).zip us' ∧ RDs K cA B ι H ((putFD f d fs).map (·.2)) us'
  | [], us, r => ⟨[v], rfl, .cons rd .nil⟩
  | p :: fs, us, r => by
    obtain ⟨u, us, rfl, h1, h2⟩ := r.cons_inv
    rw [List.map_cons, List.zip_cons_cons, putF, putFD]
    by_cases e : p.1 = f
    · rw [if_pos e, if_pos e]
      exact ⟨v :: us, rfl, .cons rd h2⟩
    · rw [if_neg e, if_neg e]
      obtain ⟨us', g1, g2⟩ := putFD_zip rd h2
      exact ⟨u :: us', by rw [g1]; rfl, .cons h1 g2⟩
theorem RS.setI (r : RS K cA B ι S H) {n : Nat} {C : Str} {fs fs' : List (Str × D)} {a : Addr} {dx : Addr} {us' : List V} (h : S[n]? = some (.ins C fs)) (ha : ι[n]? = some a) (rd : RDs K cA B ι H (fs'.map (·.2)) us') :
    RS K cA B ι (S.set n (.ins C fs')) (upd H a (.ins (cA C) dx ((fs'.map (·.1)).zip us'))) := by
  have hm : a ∈ ι := List.mem_of_getElem? ha
  have fr : Fr ι ι H (upd H a (.ins (cA C) dx ((fs'.map (·.1)).zip us'))) := Fr.at hm
  refine ⟨by rw [List.length_set]; exact r.len, r.nd, fun b z => ?_, fun i c e => ?_⟩
  · obtain ⟨h1, o, h2⟩ := r.nB b z
    exact ⟨h1, o, fr.st _ _ h2 h1⟩
  · by_cases hi : n = i
    · subst hi
      rw [List.getElem?_set_self (List.getElem?_eq_some_iff.mp h).1] at e
      cases e
      have := rd.len
      rw [List.length_map] at this
      exact ⟨a, ha, dx, us', upd_same, this, RDs.fr fr _ _ rd⟩
    · rw [List.getElem?_set_ne hi] at e
      obtain ⟨b, h1, h2⟩ := r.at_ i c e
      refine ⟨b, h1, h2.fr fr (upd_ne fun z => ?_)⟩
      subst z
      obtain ⟨l1, e1⟩ := List.getElem?_eq_some_iff.mp h1
      obtain ⟨l2, e2⟩ := List.getElem?_eq_some_iff.mp ha
      rcases Nat.lt_or_gt_of_ne hi with z | z
      · exact (List.pairwise_iff_getElem.mp r.nd n i l2 l1 z) (e2.trans e1.symm)
      · exact (List.pairwise_iff_getElem.mp r.nd i n l1 l2 z) (e1.trans e2.symm)
/-- o.f = v -/
def setF (C f : Str) (S : Sto) (e : En) (d : D) : D → RS'
  | .obj k => match S[k]? with
    | some (.ins C' fs) => if C' = C ∧ fs.length < 1000 then .nx e (S.set k (.ins C (putFD f d fs))) else .bad
    | _ => .bad
  | _ => .bad
def sFld (C f : Str) (mo mv : ME) : MS := fun e S => (mv e S).bindS e fun d S1 => (mo e S1).bindS e fun o S2 => setF C f S2 e d o
theorem setF_at {C f : Str} {e : En} {d o : D} {v x : V} {D' : Ends} {σ : L2.St} (re : Rel K cA B ι e S σ H) (rd : RD K cA B ι H d v) (ro : RD K cA B ι H o x) (h : PoS K cA W B (setF C f S e d o) ι H D') :
    ∃ a dx fs, x = .ref a ∧ H a = some (.ins (cA C) dx fs) ∧ fs.length < 1000 ∧ D'.nx σ (upd H a (.ins (cA C) dx (putF f v fs))) := by
  unfold setF at h
  split at h
  · rename_i k
    split at h
    · rename_i C' fs q
      split at h
      · rename_i hc
        obtain ⟨rfl, hl⟩ := hc
        obtain ⟨a, h1, dx, us, h2, h3, h4⟩ := re.rs.at_ k _ q
        obtain ⟨a', rfl, h5⟩ := ro.obj
        rw [h1] at h5; cases h5
        obtain ⟨us', g1, g2⟩ := putFD_zip (f := f) rd h4
        refine ⟨a, dx, _, rfl, h2, by simp; omega, ?_⟩
        rw [g1]
        have fr : Fr ι ι H (upd H a (.ins (cA C') dx (((putFD f d fs).map (·.1)).zip us'))) := Fr.at (List.mem_of_getElem? h1)
        exact h ι σ _ fr (re.fr fr (re.rs.setI q h1 g2))
      · exact h.elim
    · exact h.elim
  · exact h.elim
theorem s_fld {C f : Str} {v : Expr} {pos' : Pos} (T : FC X.K X.mg cA C) (n : NoAttr X.K (cA C) f) (hv : PE X v (tE X.K cA W mv)) (ho : PE X o (tE X.K cA W mo))
    (hs : swapsWith v (some (.Attribute o f pos')) pos.line X.env = pure false := by rfl) : PS X (.Assign [.Attribute o f pos'] v pos) (tS X.K cA W (sFld C f mo mv)) :=
  PSi (ps_fld ho hv hs) fun D' σ H ⟨B, ι, e, S, re, p⟩ =>
    .of re (po_bindS re p fun ι1 v1 H1 d1 S1 f1 r1 rd1 p1 => .of r1 (po_bindS r1 p1 fun ι2 v2 H2 d2 S2 f2 r2 rd2 p2 => by
      obtain ⟨a, dx, fs, rfl, g1, g2, g3⟩ := setF_at r2 (RD.fr f2 _ _ rd1) rd2 p2
      exact ⟨a, cA C, dx, fs, rfl, g1, T.cl, n, g2, g3⟩))
end
end DL

/-! The data layer: dicts that change, sorted texts, rows turned about. -/
namespace DL
open PySem PySem.Spec PyProof.Rows L2
def dval : List Key → List D → Key → Option D
  | j :: ks, d :: ds, k => if j = k then some d else dval ks ds k
  | _, _, _ => none
def dsetD (k : Key) (d : D) : List Key → List D → List D
  | j :: ks, x :: xs => (if j = k then d else x) :: dsetD k d ks xs
  | _, _ => []
/-- behind a store -/
def hasK (k : Key) (ks : List Key) : Bool := ks.any fun j => decide (j = k)
def dputK (k : Key) (ks : List Key) : List Key := if hasK k ks = true then ks else ks ++ [k]
def dputD (k : Key) (d : D) (ks : List Key) (ds : List D) : List D := if hasK k ks = true then dsetD k d ks ds else ds ++ [d]
def keyB : Key → D
  | .inl i => .int i
  | .inr x => .str x
section
variable {X : Cx} {K : PySem.W.Frag} {cA : Str → Addr} {W : WX} {B : Addr → Prop} {ι : List Addr} {S : Sto} {H : Hp} {a b o i x : Expr} {ma mb mo mv mi mx : ME} {pos apos p cpos : Pos} {es : List Expr} {xs : MA} {st : Stmt}
theorem dval_V : ∀ {ks : List Key} {ds : List D} {us : List V} (k : Key), ks.length = us.length → RDs K cA B ι H ds us → (dval ks ds k = none ∧ valV (ks.zip us) k = none) ∨ ∃ d v, dval ks ds k = some d ∧ valV (ks.zip us) k = some v ∧ RD K cA B ι H d v
  | [], ds, us, k, hl, r => by
    cases us with
    | nil => exact .inl ⟨rfl, rfl⟩
    | cons u us => cases hl
  | j :: ks, [], us, k, hl, r => by
    rw [r.nil_inv] at hl
    cases hl
  | j :: ks, d :: ds, us, k, hl, r => by
    obtain ⟨u, us, rfl, h1, h2⟩ := r.cons_inv
    by_cases e : j = k
    · exact .inr ⟨d, u, by rw [dval, if_pos e], by rw [List.zip_cons_cons, valV_pos e], h1⟩
    · rw [dval, if_neg e, List.zip_cons_cons, valV_neg e]
      exact dval_V k (by simpa using hl) h2
theorem zip_any {k : Key} : ∀ {ks : List Key} {us : List V}, ks.length = us.length → ((ks.zip us).any fun kv => decide (kv.1 = k)) = hasK k ks
  | [], us, _ => by simp [hasK]
  | j :: ks, [], h => by cases h
  | j :: ks, u :: us, h => by
    rw [List.zip_cons_cons, List.any_cons, zip_any (by simpa using h)]
    rfl
theorem dsetD_V {k : Key} {d : D} {v : V} (rd : RD K cA B ι H d v) : ∀ {ks : List Key} {ds : List D} {us : List V}, ks.length = us.length → RDs K cA B ι H ds us → ∃ us', ((ks.zip us).map fun kv => if kv.1 = k then (kv.1, v) else kv) = ks.zip us' ∧ ks.length = us'.length ∧ RDs K cA B ι H (dsetD k d ks ds) us'
  | [], ds, us, hl, r => by
    cases us with
    | nil => exact ⟨[], rfl, rfl, .nil⟩
    | cons u us => cases hl
  | j :: ks, [], us, hl, r => by
    rw [r.nil_inv] at hl
    cases hl
  | j :: ks, x :: ds, us, hl, r => by
    obtain ⟨u, us, rfl, h1, h2⟩ := r.cons_inv
    obtain ⟨us', g1, g2, g3⟩ := dsetD_V rd (ks := ks) (by simpa using hl) h2
    rw [List.zip_cons_cons, List.map_cons, g1, dsetD]
    by_cases e : j = k
    · rw [if_pos e, if_pos e]
      exact ⟨v :: us', rfl, by simp [g2], .cons rd g3⟩
    · rw [if_neg e, if_neg e]
      exact ⟨u :: us', rfl, by simp [g2], .cons h1 g3⟩
theorem dput_V {k : Key} {d : D} {v : V} {ks : List Key} {ds : List D} {us : List V} (rd : RD K cA B ι H d v) (hl : ks.length = us.length) (r : RDs K cA B ι H ds us) :
    ∃ us', putK (ks.zip us) k v = (dputK k ks).zip us' ∧ (dputK k ks).length = us'.length ∧ RDs K cA B ι H (dputD k d ks ds) us' := by
  unfold putK dputK dputD
  rw [zip_any hl]
  by_cases e : hasK k ks = true
  · rw [if_pos e, if_pos e, if_pos e]
    exact dsetD_V rd hl r
  · rw [if_neg e, if_neg e, if_neg e]
    exact ⟨us ++ [v], by rw [List.zip_append hl]; rfl, by simp [hl], r.append (.cons rd .nil)⟩
/-- d[k] -/
def gDIx (S : Sto) (o i : D) : Option D := match view S o, keyD i with
  | .dct ks ds, some k => dval ks ds k
  | _, _ => none
theorem dget_at {o i d : D} {x y : V} (rs : RS K cA B ι S H) (ro : RD K cA B ι H o x) (ri : RD K cA B ι H i y) (h : gDIx S o i = some d) : ∃ a v, x = .ref a ∧ DGet H a y (some v) ∧ RD K cA B ι H d v := by
  unfold gDIx at h
  split at h
  · rename_i ks ds k e1 e2
    obtain ⟨a, us, rfl, h1, h2, h3⟩ := v_dct rs ro e1
    rcases dval_V k h2 h3 with ⟨g1, _⟩ | ⟨d', v, g1, g2, g3⟩
    · rw [g1] at h; cases h
    · rw [g1] at h; cases h
      refine ⟨a, v, rfl, ?_, g3⟩
      rw [keyD_V ri e2, ← g2]
      exact DGet.k h1
  · cases h
theorem q_dix (hu : X.A.units + 64 < cLine) (ho : PE X o (tE X.K cA W mo)) (hi : PE X i (tE X.K cA W mi)) (hs : NoSl i := by intro _ _; rfl) : PE X (.Subscript o i pos) (tE X.K cA W (e2 gDIx mo mi)) :=
  PEi (pe_dget (by omega) ho hi hs) fun σ H Q ⟨B, ι, e, S, re, p⟩ =>
    .of re (po_bind re p fun ι1 v1 H1 d1 S1 f1 r1 rd1 p1 => .of r1 (po_bind r1 p1 fun ι2 v2 H2 d2 S2 f2 r2 rd2 p2 => by
      obtain ⟨d, hd, q⟩ := po_opt p2 r2.rs
      obtain ⟨a, v, e1, e2, e3⟩ := dget_at r2.rs (RD.fr f2 _ _ rd1) rd2 hd
      exact ⟨a, v, e1, e2, q _ _ same_refl e3⟩))
/-- k in d -/
def gDIn (neg : Bool) (S : Sto) (i o : D) : Option D := match view S o, keyD i with
  | .dct ks ds, some k => some (.bl (if neg then !(dval ks ds k).isSome else (dval ks ds k).isSome))
  | _, _ => none
theorem din_at {neg : Bool} {o i d : D} {x y : V} (rs : RS K cA B ι S H) (ro : RD K cA B ι H o x) (ri : RD K cA B ι H i y) (h : gDIn neg S i o = some d) : ∃ a u, x = .ref a ∧ DGet H a y u ∧ d = .bl (if neg then !u.isSome else u.isSome) := by
  unfold gDIn at h
  split at h
  · rename_i ks ds k e1 e2
    cases h
    obtain ⟨a, us, rfl, h1, h2, h3⟩ := v_dct rs ro e1
    refine ⟨a, valV (ks.zip us) k, rfl, by rw [keyD_V ri e2]; exact DGet.k h1, ?_⟩
    rcases dval_V k h2 h3 with ⟨g1, g2⟩ | ⟨d', v, g1, g2, g3⟩
    · rw [g1, g2]; rfl
    · rw [g1, g2]; rfl
  · cases h
theorem din_use : ∀ σ H Q, tE X.K cA W (e2 (gDIn false) mi mo) σ H Q → tDIn (tE X.K cA W mi) (tE X.K cA W mo) σ H Q := fun σ H Q ⟨B, ι, e, S, re, p⟩ =>
    .of re (po_bind re p fun ι1 v1 H1 d1 S1 f1 r1 rd1 p1 => .of r1 (po_bind r1 p1 fun ι2 v2 H2 d2 S2 f2 r2 rd2 p2 => by
      obtain ⟨d, hd, q⟩ := po_opt p2 r2.rs
      obtain ⟨a, u, e1, e2, rfl⟩ := din_at r2.rs rd2 (RD.fr f2 _ _ rd1) hd
      exact ⟨a, u, e1, e2, q _ _ same_refl RD.mk_bl⟩))
theorem dnin_use : ∀ σ H Q, tE X.K cA W (e2 (gDIn true) mi mo) σ H Q → tDNotIn (tE X.K cA W mi) (tE X.K cA W mo) σ H Q := fun σ H Q ⟨B, ι, e, S, re, p⟩ =>
    .of re (po_bind re p fun ι1 v1 H1 d1 S1 f1 r1 rd1 p1 => .of r1 (po_bind r1 p1 fun ι2 v2 H2 d2 S2 f2 r2 rd2 p2 => by
      obtain ⟨d, hd, q⟩ := po_opt p2 r2.rs
      obtain ⟨a, u, e1, e2, rfl⟩ := din_at r2.rs rd2 (RD.fr f2 _ _ rd1) hd
      exact ⟨a, u, e1, e2, q _ _ same_refl RD.mk_bl⟩))
theorem useB1 {t : TE} (h : ∀ σ H Q, tE X.K cA W ma σ H Q → t σ H Q) : ∀ σ H Q, tT X.K cA W (tOf ma) σ H Q → tB t σ H Q := fun σ H Q ⟨B, ι, e, S, re, p⟩ =>
  h σ H _ (.of re (po_bindB re p fun ι1 v1 H1 d1 S1 f1 r1 rd1 p1 => by
    cases d1 with
    | bl c => exact ⟨c, rd1.bl, p1 _ _ Fr.refl r1.rs⟩
    | _ => exact p1.elim))
theorem q_din (hu : X.A.units + 64 < cLine) (hi : PE X i (tE X.K cA W mi)) (ho : PE X o (tE X.K cA W mo)) (hm : behindInMarks .In o = false := by first | exact nobehind _ (by decide) (by decide) | rfl) : PE X (.Compare i [.In] [o] pos) (tE X.K cA W (e2 (gDIn false) mi mo)) :=
  PEi (pe_cmp (pc_din (by omega) hi ho) hm) din_use
theorem q_dnin (hu : X.A.units + 64 < cLine) (hi : PE X i (tE X.K cA W mi)) (ho : PE X o (tE X.K cA W mo)) (hm : behindInMarks .NotIn o = false := by first | exact nobehind _ (by decide) (by decide) | rfl) : PE X (.Compare i [.NotIn] [o] pos) (tE X.K cA W (e2 (gDIn true) mi mo)) :=
  PEi (pe_cmp (pc_dnotin (by omega) hi ho) hm) dnin_use
theorem k_din (hu : X.A.units + 64 < cLine) (hi : PE X i (tE X.K cA W mi)) (ho : PE X o (tE X.K cA W mo)) (hm : behindInMarks .In o = false := by first | exact nobehind _ (by decide) (by decide) | rfl) : PT X (.Compare i [.In] [o] pos) (tT X.K cA W (tOf (e2 (gDIn false) mi mo))) :=
  PTi (pt_cmp (pc_din (by omega) hi ho) hm) (useB1 din_use)
theorem k_dnin (hu : X.A.units + 64 < cLine) (hi : PE X i (tE X.K cA W mi)) (ho : PE X o (tE X.K cA W mo)) (hm : behindInMarks .NotIn o = false := by first | exact nobehind _ (by decide) (by decide) | rfl) : PT X (.Compare i [.NotIn] [o] pos) (tT X.K cA W (tOf (e2 (gDIn true) mi mo))) :=
  PTi (pt_cmp (pc_dnotin (by omega) hi ho) hm) (useB1 dnin_use)
/-- d.get(k, x) -/
def isDv (S : Sto) (o : D) : Bool := match view S o with | .dct _ _ => true | _ => false
def gDGet (S : Sto) (o i z : D) : Option D := match view S o, keyD i with
  | .dct ks ds, some k => some ((dval ks ds k).getD z)
  | _, _ => none
def eDGet (mo mi mx : ME) : ME := fun e S => (mo e S).bind fun o S1 => if isDv S1 o = true then (mi e S1).bind fun i S2 => (mx e S2).bind fun z S3 => opt (gDGet S3 o i z) S3 else .bad
theorem isDv_at {o : D} {x : V} (rs : RS K cA B ι S H) (ro : RD K cA B ι H o x) (h : isDv S o = true) : ∃ a, x = .ref a ∧ IsD H a := by
  unfold isDv at h
  split at h
  · rename_i ks ds e1
    obtain ⟨a, us, rfl, h1, h2, h3⟩ := v_dct rs ro e1
    exact ⟨a, rfl, .inl ⟨_, .inl h1⟩⟩
  · cases h
theorem q_dget (hu : X.A.units + 64 < cLine) (m : M2 X o "get" apos i x cpos) (ho : PE X o (tE X.K cA W mo)) (hi : PE X i (tE X.K cA W mi)) (hx : PE X x (tE X.K cA W mx)) : PE X (.Call (.Attribute o "get" apos) [i, x] [] cpos) (tE X.K cA W (eDGet mo mi mx)) :=
  PEi (pe_dget2 (by omega) ho hi hx m) fun σ H Q ⟨B, ι, e, S, re, p⟩ =>
    .of re (po_bind re p fun ι1 v1 H1 d1 S1 f1 r1 rd1 p1 => by
      split at p1
      · rename_i hd
        obtain ⟨a, rfl, ha⟩ := isDv_at r1.rs rd1 hd
        refine ⟨a, rfl, ha, .of r1 (po_bind r1 p1 fun ι2 v2 H2 d2 S2 f2 r2 rd2 p2 => .of r2 (po_bind r2 p2 fun ι3 v3 H3 d3 S3 f3 r3 rd3 p3 => ?_))⟩
        obtain ⟨d, hd, q⟩ := po_opt p3 r3.rs
        unfold gDGet at hd
        split at hd
        · rename_i ks ds k e1 e2
          cases hd
          obtain ⟨a', us, e5, h1, h2, h3⟩ := v_dct r3.rs (RD.fr f3 _ _ (RD.fr f2 _ _ rd1)) e1
          cases e5
          refine ⟨valV (ks.zip us) k, by rw [keyD_V (RD.fr f3 _ _ rd2) e2]; exact DGet.k h1, ?_⟩
          rcases dval_V k h2 h3 with ⟨g1, g2⟩ | ⟨d', v, g1, g2, g3⟩
          · rw [g2]
            rw [g1] at q
            exact q _ _ same_refl rd3
          · rw [g2]
            rw [g1] at q
            exact q _ _ same_refl g3
        · cases hd
      · exact p1.elim)
/-- d[k] = v -/
theorem RS.setD (r : RS K cA B ι S H) {n : Nat} {ks ks' : List Key} {ds ds' : List D} {a : Addr} {us' : List V} (h : S[n]? = some (.dct ks ds)) (ha : ι[n]? = some a) (hl : ks'.length = us'.length) (rd : RDs K cA B ι H ds' us') :
    RS K cA B ι (S.set n (.dct ks' ds')) (upd H a (.dK (ks'.zip us'))) := by
  have hm : a ∈ ι := List.mem_of_getElem? ha
  have fr : Fr ι ι H (upd H a (.dK (ks'.zip us'))) := Fr.at hm
  refine ⟨by rw [List.length_set]; exact r.len, r.nd, fun b z => ?_, fun i c e => ?_⟩
  · obtain ⟨h1, o, h2⟩ := r.nB b z
    exact ⟨h1, o, fr.st _ _ h2 h1⟩
  · by_cases hi : n = i
    · subst hi
      rw [List.getElem?_set_self (List.getElem?_eq_some_iff.mp h).1] at e
      cases e
      exact ⟨a, ha, us', upd_same, hl, RDs.fr fr _ _ rd⟩
    · rw [List.getElem?_set_ne hi] at e
      obtain ⟨b, h1, h2⟩ := r.at_ i c e
      refine ⟨b, h1, h2.fr fr (upd_ne fun z => ?_)⟩
      subst z
      obtain ⟨l1, e1⟩ := List.getElem?_eq_some_iff.mp h1
      obtain ⟨l2, e2⟩ := List.getElem?_eq_some_iff.mp ha
      rcases Nat.lt_or_gt_of_ne hi with z | z
      · exact (List.pairwise_iff_getElem.mp r.nd n i l2 l1 z) (e2.trans e1.symm)
      · exact (List.pairwise_iff_getElem.mp r.nd i n l1 l2 z) (e1.trans e2.symm)
def putDI (S : Sto) (e : En) : D → D → D → RS'
  | .obj n, i, d => match S[n]?, keyD i with
    | some (.dct ks ds), some k => if ks.length < 16777216 then .nx e (S.set n (.dct (dputK k ks) (dputD k d ks ds))) else .bad
    | _, _ => .bad
  | _, _, _ => .bad
def sSetD (mo mi mv : ME) : MS := fun e S => (mv e S).bindS e fun d S1 => (mo e S1).bindS e fun o S2 => (mi e S2).bindS e fun i S3 => putDI S3 e o i d
theorem s_setD {v : Expr} (h : ∀ {tv to ti : TE}, PE X v tv → PE X o to → PE X i ti → PS X st (tAsg tv (L2.gSub to ti rSetD))) (hv : PE X v (tE X.K cA W mv)) (ho : PE X o (tE X.K cA W mo)) (hi : PE X i (tE X.K cA W mi)) : PS X st (tS X.K cA W (sSetD mo mi mv)) :=
  PSi (h hv ho hi) fun D' σ H ⟨B, ι, e, S, re, p⟩ =>
    .of re (po_bindS re p fun ι1 v1 H1 d1 S1 f1 r1 rd1 p1 => .of r1 (po_bindS r1 p1 fun ι2 v2 H2 d2 S2 f2 r2 rd2 p2 => .of r2 (po_bindS r2 p2 fun ι3 v3 H3 d3 S3 f3 r3 rd3 p3 => by
      unfold putDI at p3
      split at p3
      · rename_i n
        split at p3
        · rename_i ks ds k q q2
          split at p3
          · rename_i hz
            obtain ⟨a, h1, us, h2, h4, h3⟩ := r3.rs.at_ n _ q
            obtain ⟨a', rfl, h5⟩ := (RD.fr f3 _ _ rd2).obj
            rw [h1] at h5; cases h5
            have rdd := RD.fr f3 _ _ (RD.fr f2 _ _ rd1)
            obtain ⟨us', g1, g2, g3⟩ := dput_V (k := k) rdd h4 h3
            have hlen : (ks.zip us).length < sizeLine := by
              rw [List.length_zip, ← h4, Nat.min_self, sizeLine_eq]
              exact hz
            refine ⟨a, upd H3 a (.dK (putK (ks.zip us) k v1)), rfl, by rw [keyD_V rd3 q2]; exact DPut.k h2 hlen, ?_⟩
            rw [g1]
            have fr : Fr ι3 ι3 H3 (upd H3 a (.dK ((dputK k ks).zip us'))) := Fr.at (List.mem_of_getElem? h1)
            exact p3 ι3 σ _ fr (r3.fr fr (r3.rs.setD q h1 g2 g3))
          · exact p3.elim
        · exact p3.elim
      · exact p3.elim)))
/-- {} -/
def eDNew : ME := fun _ S => .ok (.obj S.length) (S ++ [.dct [] []])
theorem q_dnew : PE X (.Dict [] [] pos) (tE X.K cA W eDNew) := PEi pe_dnewK fun σ H Q ⟨B, ι, e, S, re, p⟩ n np =>
  p _ _ _ (Fr.push (not_in re.rs np) np) (re.rs.push np ⟨[], upd_same, rfl, .nil⟩) (.mk_obj (by rw [← re.rs.len, List.getElem?_append_right (Nat.le_refl _)]; simp))
/-- list(d) -/
theorem keyB_V : ∀ ks : List Key, RDs K cA B ι H (ks.map keyB) (ks.map kV)
  | [] => .nil
  | .inl i :: ks => .cons RD.mk_int (keyB_V ks)
  | .inr i :: ks => .cons RD.mk_str (keyB_V ks)
def gListD (S : Sto) : List D → Option D
  | [d] => match view S d with
    | .dct ks _ => some (.lst (ks.map keyB))
    | _ => none
  | _ => none
theorem zip_fst {ks : List Key} {us : List V} (h : ks.length = us.length) : (ks.zip us).map (fun kv => kV kv.1) = ks.map kV := by
  have : (ks.zip us).map Prod.fst = ks := List.map_fst_zip (by omega)
  calc (ks.zip us).map (fun kv => kV kv.1) = ((ks.zip us).map Prod.fst).map kV := by rw [List.map_map]; rfl
    _ = ks.map kV := by rw [this]
theorem c_listD (hc : X.calm = true) : CB X (.type "list") gListD := .mk' (call_list_dK hc) fun cA B ι S H xs ds d Q rs rd hg q => by
  unfold gListD at hg
  split at hg
  · obtain ⟨v, rfl, rd1⟩ := rd.one
    split at hg
    · rename_i ks es e
      cases hg
      obtain ⟨a, us, rfl, h1, h2, h3⟩ := v_dct rs rd1 e
      refine ⟨a, _, rfl, h1, fun n np => ?_⟩
      rw [zip_fst h2]
      exact q _ _ (same_new np) (new_lst rs np (keyB_V ks))
    · cases hg
  · cases hg
/-- dict(pairs) -/
def prsT : List D → Option (List Key × List D)
  | [] => some ([], [])
  | .tup [i, d] :: r => match keyD i, prsT r with
    | some k, some (ks, ds) => some (k :: ks, d :: ds)
    | _, _ => none
  | _ => none
def gDictP (S : Sto) : List D → Option D
  | [d] => match view S d with
    | .lst zs => match prsT zs with
      | some (ks, ds) => if ks.Nodup then some (.dct ks ds) else none
      | none => none
    | _ => none
  | _ => none
theorem prsT_V : ∀ {zs : List D} {vs : List V} {ks : List Key} {ds : List D}, RDs K cA B ι H zs vs → prsT zs = some (ks, ds) → ∃ (ps : List Addr) (us : List V), vs = ps.map V.ref ∧ ks.length = us.length ∧ RDs K cA B ι H ds us ∧ Paired (fun p kv => SqT K H p [kV kv.1, kv.2]) ps (ks.zip us)
  | [], vs, ks, ds, r, h => by
    cases h
    rw [r.nil_inv]
    exact ⟨[], [], rfl, rfl, .nil, .nil⟩
  | z :: zs, vs, ks, ds, r, h => by
    obtain ⟨v, vs, rfl, h1, h2⟩ := r.cons_inv
    unfold prsT at h
    split at h
    · rename_i hh; cases hh
    · rename_i i d r' hh
      cases hh
      split at h
      · rename_i k ks' ds' e1 e2
        cases h
        obtain ⟨ps, us, rfl, g1, g2, g3⟩ := prsT_V h2 e2
        obtain ⟨a, ws, rfl, g4, g5⟩ := h1.tup
        obtain ⟨y, ws, rfl, g6, g7⟩ := g5.cons_inv
        obtain ⟨u, rfl, g8⟩ := g7.one
        refine ⟨a :: ps, u :: us, rfl, by simp [g1], .cons g8 g2, .cons ?_ g3⟩
        rw [← keyD_V g6 e1]
        exact g4.sq
      · cases h
    · cases h
theorem c_dictP (hc : X.calm = true) : CB X (.type "dict") gDictP := .mk' (call_dictP hc) fun cA B ι S H xs ds d Q rs rd hg q => by
  unfold gDictP at hg
  split at hg
  · obtain ⟨v, rfl, rd1⟩ := rd.one
    split at hg
    · rename_i zs e
      split at hg
      · rename_i ks es e2
        split at hg
        · rename_i hn
          cases hg
          obtain ⟨a, vs, rfl, h1, h2⟩ := v_lst rs rd1 e
          obtain ⟨ps, us, rfl, g1, g2, g3⟩ := prsT_V h2 e2
          refine ⟨a, ps, ks.zip us, rfl, h1, g3, fun n np => ?_⟩
          have hm : mergeK [] (ks.zip us) = ks.zip us := by
            have := merge_nd (acc := []) (more := ks.zip us) (by
              rw [List.nil_append, show (ks.zip us).map (·.1) = ks from List.map_fst_zip (by omega)]
              exact hn)
            rw [this, List.nil_append]
          rw [hm]
          refine q _ _ (same_new np) ?_
          rw [RD]
          exact ⟨n, us, rfl, not_in rs np, not_B rs np, upd_same, g1, RDs.fr (Fr.same (same_new np)) _ _ g2⟩
        · cases hg
      · cases hg
    · cases hg
  · cases hg
/-! ### sorted texts -/
def insS (x : Str) : List Str → List Str
  | [] => [x]
  | y :: r => if y.cps.toList < x.cps.toList then y :: insS x r else x :: y :: r
def sortS : List Str → List Str
  | [] => []
  | x :: r => insS x (sortS r)
def leS (x y : Str) : Prop := x.cps.toList ≤ y.cps.toList
theorem insS_perm (x : Str) : ∀ l, (insS x l).Perm (x :: l)
  | [] => .refl _
  | y :: r => by
    unfold insS
    split
    · exact ((insS_perm x r).cons y).trans (.swap _ _ _)
    · exact .refl _
theorem sortS_perm : ∀ l, (sortS l).Perm l
  | [] => .refl _
  | x :: r => (insS_perm x (sortS r)).trans ((sortS_perm r).cons x)
theorem insS_srt (x : Str) : ∀ l, l.Pairwise leS → (insS x l).Pairwise leS
  | [], _ => by simp [insS]
  | y :: r, h => by
    rw [List.pairwise_cons] at h
    unfold insS
    split
    · rename_i hlt
      refine List.pairwise_cons.mpr ⟨fun z hz => ?_, insS_srt x r h.2⟩
      rcases List.mem_cons.mp ((insS_perm x r).mem_iff.mp hz) with rfl | hz
      · exact List.le_of_lt hlt
      · exact h.1 z hz
    · rename_i hlt
      have hxy : leS x y := hlt
      refine List.pairwise_cons.mpr ⟨fun z hz => ?_, List.pairwise_cons.mpr h⟩
      rcases List.mem_cons.mp hz with rfl | hz
      · exact hxy
      · exact List.le_trans hxy (h.1 z hz)
theorem sortS_srt : ∀ l, (sortS l).Pairwise leS
  | [] => .nil
  | x :: r => insS_srt x _ (sortS_srt r)
theorem leS_anti {x y : Str} (h : leS x y) (g : leS y x) : x = y := by
  have := List.le_antisymm h g
  cases x; cases y
  exact congrArg Str.mk (Array.toList_inj.mp this)
theorem srt_one : ∀ {l m : List Str}, l.Perm m → l.Pairwise leS → m.Pairwise leS → l = m
  | [], m, h, _, _ => by rw [List.nil_perm.mp h]
  | x :: l, [], h, _, _ => by have := h.length_eq; cases this
  | x :: l, y :: m, h, h1, h2 => by
    rw [List.pairwise_cons] at h1 h2
    have hx : x ∈ y :: m := h.mem_iff.mp List.mem_cons_self
    have hy : y ∈ x :: l := h.mem_iff.mpr List.mem_cons_self
    have e : x = y := by
      rcases List.mem_cons.mp hx with e | hx
      · exact e
      rcases List.mem_cons.mp hy with e | hy
      · exact e.symm
      exact leS_anti (h1.1 y hy) (h2.1 x hx)
    subst e
    rw [srt_one (List.perm_cons x |>.mp h) h1.2 h2.2]
theorem rising_le : ∀ {l : List Str} {x : Str}, risingS x l = true → (∀ y ∈ l, leS x y) ∧ l.Pairwise leS
  | [], x, _ => ⟨(fun y hy => by cases hy), .nil⟩
  | y :: l, x, h => by
    rw [risingS, Bool.and_eq_true, Bool.not_eq_true', ltCps_eq, decide_eq_false_iff_not] at h
    obtain ⟨g1, g2⟩ := rising_le h.2
    have hxy : leS x y := h.1
    refine ⟨fun z hz => ?_, List.pairwise_cons.mpr ⟨g1, g2⟩⟩
    rcases List.mem_cons.mp hz with rfl | hz
    · exact hxy
    · exact List.le_trans hxy (g1 z hz)
theorem sorted_le {l : List Str} (h : sortedS l = true) : l.Pairwise leS := by
  cases l with
  | nil => exact .nil
  | cons x l =>
    obtain ⟨g1, g2⟩ := rising_le (show risingS x l = true from h)
    exact List.pairwise_cons.mpr ⟨g1, g2⟩
def gSortS (S : Sto) : List D → Option D
  | [d] => match view S d with
    | .lst zs => match strL zs with
      | some ys => if ys.length ≤ 16777216 then some (.lst ((sortS ys).map D.str)) else none
      | none => none
    | _ => none
  | _ => none
theorem strL_V : ∀ {zs : List D} {vs : List V} {ys : List Str}, RDs K cA B ι H zs vs → strL zs = some ys → vs = ys.map V.str
  | [], vs, ys, r, h => by cases h; rw [r.nil_inv]; rfl
  | z :: zs, vs, ys, r, h => by
    obtain ⟨v, vs, rfl, h1, h2⟩ := r.cons_inv
    cases z with
    | str x =>
      rw [strL] at h
      cases hz : strL zs with
      | none => rw [hz] at h; cases h
      | some l =>
        rw [hz] at h; cases h
        rw [h1.str, strL_V h2 hz]; rfl
    | _ => cases h
theorem strsB_V : ∀ ys : List Str, RDs K cA B ι H (ys.map D.str) (ys.map V.str)
  | [] => .nil
  | _ :: r => .cons RD.mk_str (strsB_V r)
def rSortedA (K : PySem.W.Frag) : List V → Hp → VK → Prop := fun vs H Q => ∃ (a : Addr) (xs : List Str), vs = [V.ref a] ∧ SqL K H a (xs.map V.str) ∧ xs.length ≤ 16777216 ∧
  ∀ (ys : List Str) (p : Addr), ys.Perm xs → sortedS ys = true → H p = none → Q (.ref p) (upd H p (.lst (ys.map V.str)))
/-- sorted, of any length -/
theorem cr_sortedA : CallR X (.builtin "sorted") (rSortedA X.K) := by
  intro pins s σ H vs us Q I r h
  obtain ⟨a, xs, rfl, hs, hn, q⟩ := h
  obtain ⟨its, rv, hl, _⟩ := I.list hs
  rw [Vals.ref1 r]
  have hlen0 := rv.length
  rw [List.length_map] at hlen0
  refine PyProof.Rows.sorted_strsAny hl.isList rv.strs (by rw [← hlen0, sizeLine_eq]; exact hn) fun out ys h1 h2 h3 => ?_
  obtain ⟨ep, he'⟩ := PyProof.Rows.sortedAll_at s.heap its out
  have hlen : (ys.map V.str).length ≤ sizeLine := by rw [List.length_map, h2.length_eq, sizeLine_eq]; exact hn
  exact ⟨.ref _, upd H (s.heap.objs.size + 1) (.lst (ys.map V.str)), I.laid (t' := s.toks) (fun _ _ => PyProof.Rows.sortedAll_old) (Nat.le_succ _) ⟨hlen, out.toList, ep, vals_of_strs h1, he'⟩, rfl, q ys _ h2 h3 (I.hok.fresh (Nat.le_succ _))⟩
theorem c_sortS : CB X (.builtin "sorted") gSortS := .mk' cr_sortedA fun cA B ι S H xs ds d Q rs rd hg q => by
  unfold gSortS at hg
  split at hg
  · obtain ⟨v, rfl, rd1⟩ := rd.one
    split at hg
    · rename_i zs e
      split at hg
      · rename_i ys e2
        split at hg
        · rename_i hl
          cases hg
          obtain ⟨a, vs, rfl, h1, h2⟩ := v_lst rs rd1 e
          rw [strL_V h2 e2] at h1
          refine ⟨a, ys, rfl, h1, hl, fun zs' n hp hs np => ?_⟩
          have : zs' = sortS ys := srt_one (hp.trans (sortS_perm ys).symm) (sorted_le hs) (sortS_srt ys)
          rw [this]
          exact q _ _ (same_new np) (new_lst rs np (strsB_V _))
        · cases hg
      · cases hg
    · cases hg
  · cases hg
/-- tuple(reversed(l)) -/
def gTupRev (S : Sto) (d : D) : Option D := match view S d with
  | .lst ds => some (.tup ds.reverse)
  | _ => none
theorem RDs.rev : ∀ {ds : List D} {vs : List V}, RDs K cA B ι H ds vs → RDs K cA B ι H ds.reverse vs.reverse
  | [], vs, r => by rw [r.nil_inv]; exact .nil
  | d :: ds, vs, r => by
    obtain ⟨v, vs, rfl, h1, h2⟩ := r.cons_inv
    rw [List.reverse_cons, List.reverse_cons]
    exact (RDs.rev h2).append (.cons h1 .nil)
theorem q_tupRev {p2 pos2 : Pos} (hc : X.calm = true) (hg : Gl X "tuple") (hm : X.mg "tuple" = none) (hg2 : Gl X "reversed") (hm2 : X.mg "reversed" = none) (ha : PE X a (tE X.K cA W ma))
    (h1 : starEach [a] X.env = (false, eval a X.env) :: starEach [] X.env := by rfl)
    (h2 : starEach [.Call (.Name "reversed" p2) [a] [] pos2] X.env = (false, eval (.Call (.Name "reversed" p2) [a] [] pos2) X.env) :: starEach [] X.env := by rfl) :
    PE X (.Call (.Name "tuple" p) [.Call (.Name "reversed" p2) [a] [] pos2] [] pos) (tE X.K cA W (e1 gTupRev ma)) :=
  PEi (RT.pe_tupRev hc hg hm hg2 hm2 ha h1 h2) fun σ H Q ⟨B, ι, e, S, re, p⟩ =>
    .of re (po_bind re p fun ι1 v1 H1 d1 S1 f1 r1 rd1 p1 => by
      obtain ⟨d, hd, q⟩ := po_opt p1 r1.rs
      unfold gTupRev at hd
      split at hd
      · rename_i ds e
        cases hd
        obtain ⟨a, us, rfl, h1, h2⟩ := v_lst r1.rs rd1 e
        exact ⟨a, us, rfl, h1, fun n np => q _ _ (same_new np) (new_tup r1.rs np h2.rev)⟩
      · cases hd)
theorem set_dictU (hu : X.A.units + 64 < cLine) : PSet X rSetD := set_dict (by omega)
theorem u65 {k : Nat} {A : Around} (r : Room k A) : A.units + 65 < cLine := by
  have := r.un
  omega
/-- in, of anything -/
def gInX (S : Sto) (a b : D) : Option D := match gIn S a b with
  | some d => some d
  | none => match pd (view S a), view S b with
    | some d, .lst zs => match pds zs with
      | some es => if SeqAt.shaped d = true ∧ SeqAt.shaped (.list es) = true then some (.bl (es.any fun z => PyData.eqv z d)) else none
      | none => none
    | _, _ => none
theorem o_inX (hu : X.A.units + 65 < cLine) : O2 X (compareOp .In) gInX := by
  obtain ⟨r1, h1, h2⟩ := (o_in (X := X)).ex
  refine ⟨_, h1.or (op_inD hu), fun cA B ι S H x y a b d Q rs ra rb hg q => ?_⟩
  unfold gInX at hg
  split at hg
  · rename_i d' e
    cases hg
    exact .inl (h2 cA B ι S H x y a b _ Q rs ra rb e q)
  · split at hg
    · rename_i d' zs e1 e2
      split at hg
      · rename_i es e3
        split at hg
        · rename_i hz
          cases hg
          obtain ⟨a', us, rfl, g1, g2⟩ := v_lst rs rb e2
          exact .inr ⟨d', es, view_dp rs ra e1, .lst g1 (pds_dp zs us es g2 e3), hz.1, hz.2, q _ H same_refl RD.mk_bl⟩
        · cases hg
      · cases hg
    · cases hg
end
end DL

/-! The data layer: step by step, for instances and dicts. -/
namespace DL
open PySem PySem.Spec PyProof.Rows L2
section
variable {Q : QE} {QL : QA} {X : QX} {P : PO} {d o i z : D} {ds zs rest : List D} {ks : List Key} {k : Key} {S : Sto} {C f m : Str} {e : En} {n t : Nat} {mo mv mi mx : ME} {am : MA} {mf : MF} {fs : List (Str × D)}
theorem k_fld (k : OkE (mo e S) (fun o S1 => OkE (opt (fldG C f S1 o) S1) Q X) X) : OkE (eFld C f mo e S) Q X := k_1 k
theorem k_fldG (h : S[n]? = some (.ins C fs)) (h2 : fs.lookup f = some d) (q : Q d S) : OkE (opt (fldG C f S (.obj n)) S) Q X := by
  have : fldG C f S (.obj n) = some d := by
    unfold fldG
    simp only [h, h2, if_true]
  rw [this]; exact q
theorem k_sFld (k : OkE (mv e S) (fun d S1 => OkE (mo e S1) (fun o S2 => OkS (setF C f S2 e d o) P) (fun c S => P.ex c e S)) (fun c S => P.ex c e S)) : OkS (sFld C f mo mv e S) P := by
  unfold sFld
  rw [OkE_bindS]
  simpa only [OkE_bindS] using k
theorem k_setF (h : S[n]? = some (.ins C fs)) (hl : fs.length < 1000) (q : P.nx e (S.set n (.ins C (putFD f d fs)))) : OkS (setF C f S e d (.obj n)) P := by
  unfold setF
  simp only [h]
  rw [if_pos ⟨trivial, hl⟩]
  exact q
theorem k_isI (h : S[n]? = some (.ins C fs)) (h2 : (fs.lookup m).isNone = true) : isI C m S (.obj n) = true := by
  unfold isI
  simp only [h, h2]
  simp
theorem k_meth (k : OkE (mo e S) (fun o S1 => isI C m S1 o = true ∧ OkA (am e S1) (fun ds S2 => ds.length + 1 = n ∧ OkE (callS mf (o :: ds) S2) Q X) X) X) : OkE (eMeth C m n mf mo am e S) Q X := by
  unfold eMeth
  rw [OkE_bind]
  refine k.imp fun o S1 ⟨h1, h2⟩ => ?_
  rw [if_pos h1, OkA_bind]
  revert h2
  cases am e S1 with
  | bad => exact _root_.id
  | exc _ _ => exact _root_.id
  | ok ds S2 => exact fun ⟨h3, h4⟩ => by rw [OkA_ok, if_pos h3]; exact h4
theorem k_make (k : OkA (am e S) (fun ds S1 => ds.length + 1 = n ∧ OkE (callS mf (.obj S1.length :: ds) (S1 ++ [.ins C []])) (fun d S2 => d = .non ∧ Q (.obj S1.length) S2) X) X) : OkE (eMake C n mf am e S) Q X := by
  unfold eMake
  rw [OkA_bind]
  revert k
  cases am e S with
  | bad => exact _root_.id
  | exc _ _ => exact _root_.id
  | ok ds S1 =>
    rintro ⟨h1, h2⟩
    rw [OkA_ok, if_pos h1]
    revert h2
    cases callS mf (.obj S1.length :: ds) (S1 ++ [.ins C []]) with
    | bad => exact _root_.id
    | exc _ _ => exact _root_.id
    | ok d S2 => rintro ⟨rfl, h3⟩; exact h3
theorem k_dix {d : D} (h : view S o = .dct ks ds) (hk : keyD i = some k) (hv : dval ks ds k = some d) (q : Q d S) : OkE (opt (gDIx S o i) S) Q X := by
  have : gDIx S o i = some d := by unfold gDIx; rw [h, hk]; exact hv
  rw [this]; exact q
theorem k_dinG {neg : Bool} (h : view S o = .dct ks ds) (hk : keyD i = some k) (q : Q (.bl (if neg then !(dval ks ds k).isSome else (dval ks ds k).isSome)) S) : OkE (opt (gDIn neg S i o) S) Q X := by
  have : gDIn neg S i o = some (.bl (if neg then !(dval ks ds k).isSome else (dval ks ds k).isSome)) := by unfold gDIn; rw [h, hk]
  rw [this]; exact q
theorem k_dget (k : OkE (mo e S) (fun o S1 => isDv S1 o = true ∧ OkE (mi e S1) (fun i S2 => OkE (mx e S2) (fun z S3 => OkE (opt (gDGet S3 o i z) S3) Q X) X) X) X) : OkE (eDGet mo mi mx e S) Q X := by
  unfold eDGet
  rw [OkE_bind]
  refine k.imp fun o S1 ⟨h1, h2⟩ => ?_
  rw [if_pos h1]
  simpa only [OkE_bind] using h2
theorem k_isDv (h : view S o = .dct ks ds) : isDv S o = true := by unfold isDv; rw [h]
theorem k_dgetG (h : view S o = .dct ks ds) (hk : keyD i = some k) (q : Q ((dval ks ds k).getD z) S) : OkE (opt (gDGet S o i z) S) Q X := by
  have : gDGet S o i z = some ((dval ks ds k).getD z) := by unfold gDGet; rw [h, hk]
  rw [this]; exact q
theorem view_dctO (h : S[n]? = some (.dct ks ds)) : view S (.obj n) = .dct ks ds := by unfold view; simp only [h]
theorem k_sSetD (k : OkE (mv e S) (fun d S1 => OkE (mo e S1) (fun o S2 => OkE (mi e S2) (fun i S3 => OkS (putDI S3 e o i d) P) (fun c S => P.ex c e S)) (fun c S => P.ex c e S)) (fun c S => P.ex c e S)) : OkS (sSetD mo mi mv e S) P := by
  unfold sSetD
  rw [OkE_bindS]
  simpa only [OkE_bindS] using k
theorem k_putDI (h : S[n]? = some (.dct ks ds)) (hk : keyD i = some k) (hl : ks.length < 16777216) (q : P.nx e (S.set n (.dct (dputK k ks) (dputD k d ks ds)))) : OkS (putDI S e (.obj n) i d) P := by
  unfold putDI
  simp only [h, hk]
  rw [if_pos hl]
  exact q
theorem k_dnew (q : Q (.obj S.length) (S ++ [.dct [] []])) : OkE (eDNew e S) Q X := q
theorem k_listD (h : view S d = .dct ks ds) (q : Q (.lst (ks.map keyB)) S) : OkE (opt (gListD S [d]) S) Q X := by
  have : gListD S [d] = some (.lst (ks.map keyB)) := by simp only [gListD, h]
  rw [this]; exact q
theorem k_dictP (h : view S d = .lst zs) (h2 : prsT zs = some (ks, ds)) (hn : ks.Nodup) (q : Q (.dct ks ds) S) : OkE (opt (gDictP S [d]) S) Q X := by
  have : gDictP S [d] = some (.dct ks ds) := by
    simp only [gDictP, h, h2]
    rw [if_pos hn]
  rw [this]; exact q
theorem k_sort {ys : List Str} (h : strL zs = some ys) (h2 : ys.length ≤ 16777216) (q : Q (.lst ((sortS ys).map D.str)) S) : OkE (opt (gSortS S [.lst zs]) S) Q X := by
  have : gSortS S [.lst zs] = some (.lst ((sortS ys).map D.str)) := by
    unfold gSortS
    simp only [view, h]
    rw [if_pos h2]
  rw [this]; exact q
theorem k_tupRev (h : view S d = .lst zs) (q : Q (.tup zs.reverse) S) : OkE (opt (gTupRev S d) S) Q X := by
  have : gTupRev S d = some (.tup zs.reverse) := by unfold gTupRev; rw [h]
  rw [this]; exact q
/-! ### calls -/
theorem OkE_callG {js : List Nat} (hj : clo S 100 (tops ds) [] = js) (hc : (decide js.Nodup && ds.all flatO && ds.all (inj1 js) && js.all (goodC js S)) = true)
    (hm : OkE (mf (ds.map (mapO js.idxOf)) (js.map fun j => mapC js.idxOf (S.getD j (.lst [])))) (fun d S2 => flatO d = true ∧ S2.all okC = true ∧ Q (mapO (outN js S.length) d) (back js S S2)) (fun c S2 => S2.all okC = true ∧ X c (back js S S2))) : OkE (callS mf ds S) Q X := by
  unfold callS callJ
  rw [hj, if_pos hc]
  revert hm
  cases mf (ds.map (mapO js.idxOf)) (js.map fun j => mapC js.idxOf (S.getD j (.lst []))) with
  | bad => exact _root_.id
  | exc c S2 => rintro ⟨h1, h2⟩; simp only [h1, if_true]; exact h2
  | ok d S2 => rintro ⟨h1, h2, h3⟩; simp only [h1, h2, Bool.and_self, if_true]; exact h3
theorem map_cl {g : Nat → Nat} : ∀ {l : List D}, l.all cl = true → l.map (mapO g) = l
  | [], _ => rfl
  | d :: l, h => by
    rw [List.all_cons, Bool.and_eq_true] at h
    rw [List.map_cons, (cl_flat h.1).2.1 g, map_cl h.2]
theorem tops_cl : ∀ {l : List D}, l.all cl = true → tops l = []
  | [], _ => rfl
  | d :: l, h => by
    rw [List.all_cons, Bool.and_eq_true] at h
    have := tops_cl h.2
    unfold tops at this ⊢
    cases d with
    | obj n => cases h.1
    | _ => exact this
theorem all_flat {l : List D} (h : l.all cl = true) : l.all flatO = true := List.all_eq_true.mpr fun d hd => (cl_flat (List.all_eq_true.mp h d hd)).1
theorem all_inj {l : List D} {js : List Nat} (h : l.all cl = true) : l.all (inj1 js) = true := List.all_eq_true.mpr fun d hd => (cl_flat (List.all_eq_true.mp h d hd)).2.2 js
/-- an instance with one field that is a cell, and it stays -/
theorem OkE_callI {c : Cell} (hn : S[n]? = some (.ins C [(f, .obj t)])) (ht : S[t]? = some c) (hne : n ≠ t) (hcl : clC c = true) (hr : rest.all cl = true)
    (hm : OkE (mf (.obj 0 :: rest) [.ins C [(f, .obj 1)], c]) (fun d S' => S' = [.ins C [(f, .obj 1)], c] ∧ cl d = true ∧ Q d S) (fun x S' => S' = [.ins C [(f, .obj 1)], c] ∧ X x S)) : OkE (callS mf (.obj n :: rest) S) Q X := by
  have hk : kids c = [] := clC_kids hcl
  have ho : okC c = true := clC_okC hcl
  have hi : ∀ js, inC js c = true := clC_inC hcl
  have hmc : ∀ g, mapC g c = c := clC_mapC hcl
  have hnt : ¬ t = n := fun z => hne z.symm
  have hclo : clo S 100 (tops (.obj n :: rest)) [] = [n, t] := by
    have : tops (.obj n :: rest) = [n] := by
      have := tops_cl hr
      unfold tops at this ⊢
      rw [List.filterMap_cons]
      simp only [this]
    have k1 : kids (.ins C [(f, .obj t)]) = [t] := rfl
    have c1 : clo S (99 + 1) [n] [] = clo S 99 [t] [n] := by
      rw [clo, if_neg (by simp)]
      simp only [hn, k1, List.nil_append]
    have c2 : clo S (98 + 1) [t] [n] = clo S 98 [] [n, t] := by
      have : t ∉ [n] := by simpa using hnt
      simp only [clo, this, if_false, ht, hk, List.nil_append]
      rfl
    rw [this]
    exact c1.trans c2
  have hb : back [n, t] S [.ins C [(f, .obj 1)], c] = S := by
    unfold back
    refine List.ext_getElem? fun i => ?_
    have e0 : [n, t].idxOf t = 1 := by
      have : (n == t) = false := beq_eq_false_iff_ne.mpr hne
      simp [List.idxOf_cons, this]
    simp only [List.length_cons, List.length_nil, Nat.zero_add, Nat.reduceAdd, List.drop_succ_cons, List.drop_nil, List.map_nil, List.append_nil, List.getElem?_mapIdx]
    by_cases hi1 : i = n
    · subst hi1
      rw [hn]
      simp [mapC, mapO, outN]
    · by_cases hi2 : i = t
      · subst hi2
        rw [ht]
        simp [e0, hmc]
      · cases S[i]? with
        | none => rfl
        | some x => simp [hi1, hi2]
  refine OkE_callG (js := [n, t]) hclo ?_ ?_
  · have g1 : goodC [n, t] S n = true := by unfold goodC; rw [hn]; simp [okC, inC, cds, flatO, inj1]
    have g2 : goodC [n, t] S t = true := by unfold goodC; rw [ht]; simp [ho, hi]
    rw [List.all_cons, List.all_cons, all_flat hr, all_inj hr]
    simp [g1, g2, flatO, inj1, hne]
  · have e0 : [n, t].idxOf t = 1 := by
      have : (n == t) = false := beq_eq_false_iff_ne.mpr hne
      simp [List.idxOf_cons, this]
    have e1 : (D.obj n :: rest).map (mapO [n, t].idxOf) = .obj 0 :: rest := by
      rw [List.map_cons, map_cl hr]
      simp [mapO]
    have e2 : ([n, t].map fun j => mapC [n, t].idxOf (S.getD j (.lst []))) = [.ins C [(f, .obj 1)], c] := by
      simp only [List.map_cons, List.map_nil, List.getD_eq_getElem?_getD, hn, ht, Option.getD_some, hmc]
      simp [mapC, mapO, e0]
    rw [e1, e2]
    refine hm.mono (fun d S' hh => ?_) fun x S' hh => ?_
    · obtain ⟨rfl, h1, h2⟩ := hh
      refine ⟨(cl_flat h1).1, by rw [List.all_cons, List.all_cons, ho]; rfl, ?_⟩
      rw [(cl_flat h1).2.1, hb]
      exact h2
    · obtain ⟨rfl, h2⟩ := hh
      refine ⟨by rw [List.all_cons, List.all_cons, ho]; rfl, ?_⟩
      rw [hb]
      exact h2
theorem back_last {S : Sto} {x c0 : Cell} {rest : Sto} : back [S.length] (S ++ [x]) (c0 :: rest) = S ++ (mapC (outN [S.length] (S.length + 1)) c0 :: rest.map (mapC (outN [S.length] (S.length + 1)))) := by
  unfold back
  have e1 : ((S ++ [x]).mapIdx fun k c => if k ∈ [S.length] then mapC (outN [S.length] (S ++ [x]).length) ((c0 :: rest).getD ([S.length].idxOf k) c) else c) = S ++ [mapC (outN [S.length] (S.length + 1)) c0] := by
    refine List.ext_getElem? fun i => ?_
    rw [List.getElem?_mapIdx]
    rcases Nat.lt_trichotomy i S.length with h | h | h
    · rw [List.getElem?_append_left h, List.getElem?_append_left h, List.getElem?_eq_getElem h]
      have : ¬ i = S.length := by omega
      simp [this]
    · subst h
      simp
    · rw [List.getElem?_append_right (by omega), List.getElem?_append_right (by omega)]
      have : i - S.length ≠ 0 := by omega
      cases q : i - S.length with
      | zero => exact absurd q this
      | succ k => simp
  rw [e1, List.append_assoc]
  simp
/-- a new instance's __init__ -/
theorem OkE_init (hr : rest.all cl = true)
    (hm : OkE (mf (.obj 0 :: rest) [.ins C []]) (fun d S' => d = .non ∧ ∃ c0 r, S' = c0 :: r ∧ S'.all okC = true ∧ Q .non (S ++ (mapC (outN [S.length] (S.length + 1)) c0 :: r.map (mapC (outN [S.length] (S.length + 1))))))
      (fun x S' => ∃ c0 r, S' = c0 :: r ∧ S'.all okC = true ∧ X x (S ++ (mapC (outN [S.length] (S.length + 1)) c0 :: r.map (mapC (outN [S.length] (S.length + 1))))))) :
    OkE (callS mf (.obj S.length :: rest) (S ++ [.ins C []])) Q X := by
  have hat : (S ++ [Cell.ins C []])[S.length]? = some (.ins C []) := by simp
  refine OkE_callG (js := [S.length]) ?_ ?_ ?_
  · have : tops (.obj S.length :: rest) = [S.length] := by
      have := tops_cl hr
      unfold tops at this ⊢
      rw [List.filterMap_cons]
      simp only [this]
    rw [this]
    simp [clo, kids, cds, tops]
  · have g1 : goodC [S.length] (S ++ [Cell.ins C []]) S.length = true := by unfold goodC; rw [hat]; rfl
    rw [List.all_cons, List.all_cons, all_flat hr, all_inj hr]
    simp [g1, flatO, inj1]
  · have e1 : (D.obj S.length :: rest).map (mapO [S.length].idxOf) = .obj 0 :: rest := by
      rw [List.map_cons, map_cl hr]
      simp [mapO]
    have e2 : ([S.length].map fun j => mapC [S.length].idxOf ((S ++ [Cell.ins C []]).getD j (.lst []))) = [.ins C []] := by
      simp only [List.map_cons, List.map_nil, List.getD_eq_getElem?_getD, hat, Option.getD_some]
      rfl
    rw [e1, e2]
    refine hm.mono (fun d S' hh => ?_) fun x S' hh => ?_
    · obtain ⟨rfl, c0, r, rfl, h1, h2⟩ := hh
      refine ⟨rfl, h1, ?_⟩
      rw [back_last]
      exact h2
    · obtain ⟨c0, r, rfl, h1, h2⟩ := hh
      refine ⟨h1, ?_⟩
      rw [back_last]
      exact h2
end
end DL

/-! The data layer: the place in a list. -/
namespace DL
open PySem PySem.Spec PyProof.Rows L2
section
variable {X : Cx} {K : PySem.W.Frag} {cA : Str → Addr} {W : WX} {B : Addr → Prop} {ι : List Addr} {S : Sto} {H : Hp} {a o : Expr} {ma mo : ME} {pos : Pos}
def gIdx (S : Sto) (a b : D) : Option D := match view S a with
  | .lst ds => match flas ds, fla b with
    | some vs, some y => (vs.findIdx? fun v => eqV v y).map fun j => D.int ((j : Nat) : Int)
    | _, _ => none
  | _ => none
def eIdx (mo ma : ME) : ME := fun e S => (mo e S).bind fun x S1 => if isLv S1 x = true then (ma e S1).bind fun y S2 => opt (gIdx S2 x y) S2 else .bad
theorem q_idx {apos : Pos} (ho : PE X o (tE X.K cA W mo)) (hv : PE X a (tE X.K cA W ma))
    (h : ∀ {to : TE} {t : TA}, PE X o to → PA X [a] t → PE X (.Call (.Attribute o "index" apos) [a] [] pos) (tBM X.K "list" (rIndex X.K) to t))
    (hst : starEach [a] X.env = [(false, eval a X.env)] := by rfl) : PE X (.Call (.Attribute o "index" apos) [a] [] pos) (tE X.K cA W (eIdx mo ma)) :=
  PEi (h ho (pa_cons hv pa_nil hst)) fun σ H Q ⟨B, ι, e, S, re, p⟩ =>
    .of re (po_bind re p fun ι1 v1 H1 d1 S1 f1 r1 rd1 p1 => by
      split at p1
      · rename_i hl
        unfold isLv at hl
        split at hl
        · rename_i ds0 q0
          obtain ⟨a', us0, rfl, h20, h30⟩ := v_lst r1.rs rd1 q0
          refine ⟨.inl ⟨rfl, _, h20⟩, .of r1 (po_bind r1 p1 fun ι2 v2 H2 d2 S2 f2 r2 rd2 p2 => ?_)⟩
          obtain ⟨d, hd, q⟩ := po_opt p2 r2.rs
          unfold gIdx at hd
          split at hd
          · rename_i ds q2
            split at hd
            · rename_i vs y e1 e2
              obtain ⟨a2, us, e3, h3, h4⟩ := v_lst r2.rs (RD.fr f2 _ _ rd1) q2
              cases e3
              obtain ⟨g1, g2⟩ := flas_V h4 e1
              obtain ⟨g3, g4⟩ := fla_V rd2 e2
              subst g1 g3
              cases hf : us.findIdx? (fun v => eqV v v2) with
              | none => rw [hf] at hd; cases hd
              | some j =>
                rw [hf] at hd
                cases hd
                obtain ⟨hj, k1, k2⟩ := List.findIdx?_eq_some_iff_getElem.mp hf
                refine ⟨_, us, v2, j, us[j], rfl, rfl, h3, g4, g2, List.getElem?_eq_getElem hj, k1, fun m z' hm hz => ?_, q _ _ same_refl RD.mk_int⟩
                obtain ⟨hm2, rfl⟩ := List.getElem?_eq_some_iff.mp hz
                simpa using k2 m hm
            · cases hd
          · cases hd
        · cases hl
      · exact p1.elim)
end
section
variable {Q : QE} {X : QX} {S : Sto} {e : En} {a b : D} {mo ma : ME}
theorem k_idx (k : OkE (mo e S) (fun x S1 => isLv S1 x = true ∧ OkE (ma e S1) (fun y S2 => OkE (opt (gIdx S2 x y) S2) Q X) X) X) : OkE (eIdx mo ma e S) Q X := by
  unfold eIdx
  rw [OkE_bind]
  refine k.imp fun o S1 hh => ?_
  rw [if_pos hh.1]
  simpa only [OkE_bind] using hh.2
end
end DL

/-! The data layer: dict(pairs) as a cell, d.pop(k), calls with several cells. -/
namespace DL
open PySem PySem.Spec PyProof.Rows L2
def celD : RE → RE
  | .ok (.dct ks ds) S => .ok (.obj S.length) (S ++ [.dct ks ds])
  | .exc c S => .exc c S
  | _ => .bad
def eCelD (m : ME) : ME := fun e S => celD (m e S)
def dropKs (k : Key) (ks : List Key) : List Key := ks.filter fun j => decide (j ≠ k)
def dropDs (k : Key) : List Key → List D → List D
  | j :: ks, d :: ds => if j = k then dropDs k ks ds else d :: dropDs k ks ds
  | _, _ => []
def popDI (S : Sto) : D → D → RE
  | .obj n, i => match S[n]?, keyD i with
    | some (.dct ks ds), some k => match dval ks ds k with
      | some d => .ok d (S.set n (.dct (dropKs k ks) (dropDs k ks ds)))
      | none => .bad
    | _, _ => .bad
  | _, _ => .bad
def eDPop (mo mi : ME) : ME := fun e S => (mo e S).bind fun o S1 => if isDv S1 o = true then (mi e S1).bind fun i S2 => popDI S2 o i else .bad
section
variable {X : Cx} {K : PySem.W.Frag} {cA : Str → Addr} {W : WX} {B : Addr → Prop} {ι : List Addr} {S : Sto} {H : Hp} {a b o i x : Expr} {ma mb mo mv mi mx : ME} {pos apos p cpos : Pos} {es : List Expr} {xs : MA} {st : Stmt}
theorem celD_bindA {r : RA} {f : List D → Sto → RE} : celD (r.bind f) = r.bind fun d S => celD (f d S) := by cases r <;> rfl
theorem q_dictN {z : Str} {pp : Pos} (hc : X.calm = true) (hg : Gl X z) (hm : X.mg z = none) (hv : bootBuiltins z = some (.type "dict")) (ha : PA X (a :: es) (tA X.K cA W xs)) (hn : z ≠ "__name__" := by decide) (hdb : (z == ("__debug__" : Str)) = false := by decide)
    (he : starEach (a :: es) X.env = (false, eval a X.env) :: starEach es X.env := by rfl) (hpl : (backTo pos (starEach es X.env)).any (·.1) = false := by rfl) : PE X (.Call (.Name z pp) (a :: es) [] pos) (tE X.K cA W (eCelD (eB gDictP xs))) :=
  PEi (pe_callTy (call_dictP hc) hg hm hv ha hn hdb he hpl) fun σ H Q ⟨B, ι, e, S, re, p⟩ => by
    have p' : PoE X.K cA W B ((xs e S).bind fun ds S1 => celD (opt (gDictP S1 ds) S1)) ι σ H Q := by
      rw [← celD_bindA]; exact p
    refine .of re (poA_bind re p' fun ι1 vs H1 ds S1 f1 r1 rd1 p1 => ?_)
    cases hg : gDictP S1 ds with
    | none => rw [hg] at p1; exact p1.elim
    | some d =>
      rw [hg] at p1
      have hg' := hg
      unfold gDictP at hg
      split at hg
      · obtain ⟨v, rfl, rd0⟩ := rd1.one
        split at hg
        · rename_i zs e
          split at hg
          · rename_i ks es e2
            split at hg
            · rename_i hn
              cases hg
              obtain ⟨a, vs, rfl, h1, h2⟩ := v_lst r1.rs rd0 e
              obtain ⟨ps, us, rfl, g1, g2, g3⟩ := prsT_V h2 e2
              refine ⟨a, ps, ks.zip us, rfl, h1, g3, fun n np => ?_⟩
              have hm : mergeK [] (ks.zip us) = ks.zip us := by
                have := merge_nd (acc := []) (more := ks.zip us) (by
                  rw [List.nil_append, show (ks.zip us).map (·.1) = ks from List.map_fst_zip (by omega)]
                  exact hn)
                rw [this, List.nil_append]
              rw [hm]
              have fr : Fr ι1 (ι1 ++ [n]) H1 (upd H1 n (.dK (ks.zip us))) := Fr.push (not_in r1.rs np) np
              exact p1 _ _ _ fr (r1.rs.push np ⟨us, upd_same, g1, RDs.fr fr _ _ g2⟩) (.mk_obj (by rw [← r1.rs.len, List.getElem?_append_right (Nat.le_refl _)]; simp))
            · cases hg
          · cases hg
        · cases hg
      · cases hg
theorem drop_V {k : Key} : ∀ {ks : List Key} {ds : List D} {us : List V}, ks.length = us.length → RDs K cA B ι H ds us → ∃ us', dropK (ks.zip us) k = (dropKs k ks).zip us' ∧ (dropKs k ks).length = us'.length ∧ RDs K cA B ι H (dropDs k ks ds) us'
  | [], ds, us, hl, r => by
    cases us with
    | nil => exact ⟨[], rfl, rfl, .nil⟩
    | cons u us => cases hl
  | j :: ks, [], us, hl, r => by
    rw [r.nil_inv] at hl
    cases hl
  | j :: ks, x :: ds, us, hl, r => by
    obtain ⟨u, us, rfl, h1, h2⟩ := r.cons_inv
    obtain ⟨us', g1, g2, g3⟩ := drop_V (k := k) (ks := ks) (by simpa using hl) h2
    unfold dropK at g1 ⊢
    unfold dropKs at g1 g2 ⊢
    rw [List.zip_cons_cons, dropDs]
    by_cases e : j = k
    · rw [List.filter_cons_of_neg (by simpa using e), List.filter_cons_of_neg (by simpa using e), if_pos e]
      exact ⟨us', g1, g2, g3⟩
    · rw [List.filter_cons_of_pos (by simpa using e), List.filter_cons_of_pos (by simpa using e), if_neg e, g1]
      exact ⟨u :: us', rfl, by simpa using g2, .cons h1 g3⟩
theorem q_dpop (m : M1 X o "pop" apos i cpos) (ho : PE X o (tE X.K cA W mo)) (hi : PE X i (tE X.K cA W mi)) : PE X (.Call (.Attribute o "pop" apos) [i] [] cpos) (tE X.K cA W (eDPop mo mi)) :=
  PEi (pe_dpop1 ho hi m) fun σ H Q ⟨B, ι, e, S, re, p⟩ =>
    .of re (po_bind re p fun ι1 v1 H1 d1 S1 f1 r1 rd1 p1 => by
      split at p1
      · rename_i hd
        obtain ⟨a, rfl, ha⟩ := isDv_at r1.rs rd1 hd
        refine ⟨a, rfl, ha, .of r1 (po_bind r1 p1 fun ι2 v2 H2 d2 S2 f2 r2 rd2 p2 => ?_)⟩
        unfold popDI at p2
        split at p2
        · rename_i n
          split at p2
          · rename_i ks ds k q q2
            split at p2
            · rename_i d hd
              obtain ⟨a2, h1, us, h2, h4, h3⟩ := r2.rs.at_ n _ q
              obtain ⟨a', e5, h5⟩ := (RD.fr f2 _ _ rd1).obj
              cases e5
              rw [h1] at h5; cases h5
              obtain ⟨us', g1, g2, g3⟩ := drop_V (k := k) h4 h3
              rcases dval_V k h4 h3 with ⟨z1, _⟩ | ⟨d', v, z1, z2, z3⟩
              · rw [z1] at hd; cases hd
              · rw [z1] at hd; cases hd
                refine ⟨ks.zip us, k, v, h2, keyD_V rd2 q2, z2, ?_⟩
                rw [g1]
                have fr : Fr ι2 ι2 H2 (upd H2 a (.dK ((dropKs k ks).zip us'))) := Fr.at (List.mem_of_getElem? h1)
                exact p2 ι2 _ _ fr (r2.rs.setD q h1 g2 g3) (RD.fr fr _ _ z3)
            · exact p2.elim
          · exact p2.elim
        · exact p2.elim
      · exact p1.elim)
end
/-! ### plain -/
section
variable {Q : QE} {QL : QA} {X : QX} {P : PO} {d o i z : D} {ds zs rest : List D} {ks : List Key} {k : Key} {S : Sto} {C f m : Str} {e : En} {n t : Nat} {mo mv mi mx : ME} {am : MA} {mf : MF} {fs : List (Str × D)}
theorem k_celD {m : ME} (k : OkE (m e S) (fun d S' => ∃ ks ds, d = .dct ks ds ∧ Q (.obj S'.length) (S' ++ [.dct ks ds])) X) : OkE (eCelD m e S) Q X := by
  unfold eCelD
  revert k
  cases m e S with
  | bad => exact _root_.id
  | exc c S1 => exact _root_.id
  | ok d S1 => rintro ⟨ks, ds, rfl, h⟩; exact h
theorem k_dpop (k : OkE (mo e S) (fun o S1 => isDv S1 o = true ∧ OkE (mi e S1) (fun i S2 => OkE (popDI S2 o i) Q X) X) X) : OkE (eDPop mo mi e S) Q X := by
  unfold eDPop
  rw [OkE_bind]
  refine k.imp fun o S1 ⟨h1, h2⟩ => ?_
  rw [if_pos h1]
  simpa only [OkE_bind] using h2
theorem k_popDI (h : S[n]? = some (.dct ks ds)) (hk : keyD i = some k) (hv : dval ks ds k = some d) (q : Q d (S.set n (.dct (dropKs k ks) (dropDs k ks ds)))) : OkE (popDI S (.obj n) i) Q X := by
  simp only [popDI, h, hk, hv]
  exact q
/-! ### calls with several cells -/
def setAll (g : Nat → Nat) : Sto → List Nat → Sto → Sto
  | S, j :: js, c :: cs => setAll g (S.set j (mapC g c)) js cs
  | S, _, _ => S
theorem setAll_len {g : Nat → Nat} : ∀ {js : List Nat} {S cs : Sto}, (setAll g S js cs).length = S.length
  | [], S, cs => by cases cs <;> rfl
  | j :: js, S, [] => rfl
  | j :: js, S, c :: cs => by rw [setAll, setAll_len, List.length_set]
theorem setAll_at {g : Nat → Nat} : ∀ {js : List Nat} {S cs : Sto} {i : Nat}, js.Nodup → js.length ≤ cs.length → i < S.length → (setAll g S js cs)[i]? = if i ∈ js then (cs[js.idxOf i]?).map (mapC g) else S[i]?
  | [], S, cs, i, _, _, _ => by cases cs <;> simp [setAll]
  | j :: js, S, [], i, _, h, _ => by simp at h
  | j :: js, S, c :: cs, i, hn, hl, hi => by
    rw [List.nodup_cons] at hn
    rw [setAll, setAll_at hn.2 (by simpa using hl) (by simpa using hi)]
    by_cases e : j = i
    · subst e
      simp [hn.1, hi]
    · have e2 : (j == i) = false := beq_eq_false_iff_ne.mpr e
      have e3 : ¬ i = j := fun z => e z.symm
      rw [List.getElem?_set_ne e]
      simp only [List.mem_cons, e3, false_or, List.idxOf_cons, e2]
      by_cases h : i ∈ js <;> simp [h]
theorem back_sets {js : List Nat} {S2 : Sto} (hn : js.Nodup) (hl : js.length ≤ S2.length) : back js S S2 = setAll (outN js S.length) S js S2 ++ (S2.drop js.length).map (mapC (outN js S.length)) := by
  unfold back
  congr 1
  refine List.ext_getElem? fun i => ?_
  rw [List.getElem?_mapIdx]
  by_cases hi : i < S.length
  · rw [setAll_at hn hl hi, List.getElem?_eq_getElem hi, Option.map_some]
    by_cases hm : i ∈ js
    · have hx := List.idxOf_lt_length_of_mem hm
      rw [if_pos hm, if_pos hm, List.getD_eq_getElem?_getD, List.getElem?_eq_getElem (by omega)]
      rfl
    · rw [if_neg hm, if_neg hm]
  · have h1 : S[i]? = none := List.getElem?_eq_none (by omega)
    have h2 : (setAll (outN js S.length) S js S2)[i]? = none := List.getElem?_eq_none (by rw [setAll_len]; omega)
    rw [h1, h2]; rfl
theorem out_idx {js : List Nat} {L : Nat} {n : Nat} (h : n ∈ js) : outN js L (js.idxOf n) = n := by
  have hx := List.idxOf_lt_length_of_mem h
  unfold outN
  rw [if_pos hx, List.getD_eq_getElem?_getD, idx_get h]; rfl
theorem mapO_out {js : List Nat} {L : Nat} {d : D} (h : inj1 js d = true) : mapO (outN js L) (mapO js.idxOf d) = d := by
  cases d with
  | obj n => exact congrArg D.obj (out_idx (of_decide_eq_true h))
  | _ => rfl
theorem mapOs_out {js : List Nat} {L : Nat} : ∀ {ds : List D}, ds.all (inj1 js) = true → (ds.map (mapO js.idxOf)).map (mapO (outN js L)) = ds
  | [], _ => rfl
  | d :: ds, h => by
    rw [List.all_cons, Bool.and_eq_true] at h
    rw [List.map_cons, List.map_cons, mapO_out h.1, mapOs_out h.2]
theorem mapC_out {js : List Nat} {L : Nat} {c : Cell} (h : inC js c = true) : mapC (outN js L) (mapC js.idxOf c) = c := by
  cases c with
  | lst ds => exact congrArg Cell.lst (mapOs_out h)
  | dct ks ds => exact congrArg (Cell.dct ks) (mapOs_out h)
  | ins C fs =>
    refine congrArg (Cell.ins C) ?_
    have : ∀ {fs : List (Str × D)}, (fs.map (·.2)).all (inj1 js) = true → ((fs.map fun p => (p.1, mapO js.idxOf p.2)).map fun p => (p.1, mapO (outN js L) p.2)) = fs := fun {fs} => by
      induction fs with
      | nil => exact fun _ => rfl
      | cons p t ih =>
        intro h
        rw [List.map_cons, List.all_cons, Bool.and_eq_true] at h
        rw [List.map_cons, List.map_cons, ih h.2, mapO_out h.1]
    exact this h
/-- the callee's own cells -/
def locS (S : Sto) (js : List Nat) : Sto := js.map fun j => mapC js.idxOf (S.getD j (.lst []))
theorem okC_mapC {g : Nat → Nat} {c : Cell} : okC (mapC g c) = okC c := by
  have h1 : ∀ d : D, flatO (mapO g d) = flatO d := fun d => by cases d <;> rfl
  have h2 : ∀ ds : List D, (ds.map (mapO g)).all flatO = ds.all flatO := fun ds => by
    induction ds with
    | nil => rfl
    | cons d ds ih => rw [List.map_cons, List.all_cons, List.all_cons, ih, h1]
  cases c with
  | lst ds => exact h2 ds
  | dct ks ds => exact h2 ds
  | ins C fs =>
    show ((fs.map fun p => (p.1, mapO g p.2)).map (·.2)).all flatO = (fs.map (·.2)).all flatO
    rw [← h2 (fs.map (·.2)), List.map_map, List.map_map]
    rfl
/-- what a call asks of the cells -/
def callOk (ds : List D) (S : Sto) (js : List Nat) : Bool := decide js.Nodup && ds.all flatO && ds.all (inj1 js) && js.all (goodC js S)
theorem OkE_callW {js : List Nat} {da : List D} {L : Sto} (hj : clo S 100 (tops ds) [] = js) (hc : callOk ds S js = true) (hda : ds.map (mapO js.idxOf) = da) (hL : locS S js = L)
    (hm : OkE (mf da L) (fun d S' => ∃ L' new, S' = L' ++ new ∧ L'.length = js.length ∧ flatO d = true ∧ L'.all okC = true ∧ new.all okC = true ∧ Q (mapO (outN js S.length) d) (setAll (outN js S.length) S js L' ++ new.map (mapC (outN js S.length))))
      (fun c S' => ∃ L' new, S' = L' ++ new ∧ L'.length = js.length ∧ L'.all okC = true ∧ new.all okC = true ∧ X c (setAll (outN js S.length) S js L' ++ new.map (mapC (outN js S.length))))) : OkE (callS mf ds S) Q X := by
  have hnd : js.Nodup := by
    unfold callOk at hc
    simp only [Bool.and_eq_true, decide_eq_true_eq] at hc
    exact hc.1.1.1
  have hcut : ∀ (L' new : Sto), L'.length = js.length → back js S (L' ++ new) = setAll (outN js S.length) S js L' ++ new.map (mapC (outN js S.length)) := fun L' new hl => by
    have hsa : ∀ (js : List Nat) (S A B : Sto), A.length = js.length → setAll (outN js S.length) S js (A ++ B) = setAll (outN js S.length) S js A := fun js0 S A B h => by
      have : ∀ (g : Nat → Nat) (js : List Nat) (S A B : Sto), A.length = js.length → setAll g S js (A ++ B) = setAll g S js A := fun g js => by
        induction js with
        | nil => intro S A B h; cases A with
          | nil => cases B <;> rfl
          | cons _ _ => cases h
        | cons j js ih => intro S A B h; cases A with
          | nil => cases h
          | cons a A => rw [List.cons_append, setAll, setAll, ih _ _ _ (by simpa using h)]
      exact this _ _ _ _ _ h
    rw [back_sets hnd (by rw [List.length_append]; omega), hsa _ _ _ _ hl, List.drop_append_of_le_length (by omega), List.drop_of_length_le (by omega), List.nil_append]
  unfold locS at hL
  refine OkE_callG hj hc ?_
  rw [hda, hL]
  refine hm.mono (fun d S' hh => ?_) fun x S' hh => ?_
  · obtain ⟨L', new, rfl, hl, h1, h2, h3, h4⟩ := hh
    exact ⟨h1, by rw [List.all_append, h2, h3]; rfl, by rw [hcut _ _ hl]; exact h4⟩
  · obtain ⟨L', new, rfl, hl, h2, h3, h4⟩ := hh
    exact ⟨by rw [List.all_append, h2, h3]; rfl, by rw [hcut _ _ hl]; exact h4⟩
theorem set_same {S : Sto} {j : Nat} {c : Cell} (h : S[j]? = some c) : S.set j c = S := by
  obtain ⟨hl, e⟩ := List.getElem?_eq_some_iff.mp h
  subst e
  exact List.set_getElem_self hl
theorem setAll_same {S : Sto} : ∀ {js all : List Nat}, (∀ j ∈ js, goodC all S j = true) → setAll (outN all S.length) S js (js.map fun j => mapC all.idxOf (S.getD j (.lst []))) = S
  | [], all, _ => rfl
  | j :: js, all, h => by
    have hg := h j (by simp)
    unfold goodC at hg
    cases q : S[j]? with
    | none => rw [q] at hg; cases hg
    | some c =>
      rw [q] at hg
      rw [Bool.and_eq_true] at hg
      rw [List.map_cons, setAll, List.getD_eq_getElem?_getD, q, Option.getD_some, mapC_out hg.2, set_same q]
      exact setAll_same fun j hj => h j (by simp [hj])
/-- .. that stay as they are -/
theorem OkE_callR {js : List Nat} {da : List D} {L : Sto} (hj : clo S 100 (tops ds) [] = js) (hc : callOk ds S js = true) (hda : ds.map (mapO js.idxOf) = da) (hL : locS S js = L)
    (hm : OkE (mf da L) (fun d S' => S' = L ∧ cl d = true ∧ Q d S) (fun c S' => S' = L ∧ X c S)) : OkE (callS mf ds S) Q X := by
  have hg : ∀ j ∈ js, goodC js S j = true := by
    unfold callOk at hc
    simp only [Bool.and_eq_true, List.all_eq_true] at hc
    exact hc.2
  have hlen : L.length = js.length := by rw [← hL]; unfold locS; rw [List.length_map]
  have hall : L.all okC = true := by
    rw [← hL]
    unfold locS
    refine List.all_eq_true.mpr fun c hc => ?_
    obtain ⟨j, hj, rfl⟩ := List.mem_map.mp hc
    have := hg j hj
    unfold goodC at this
    cases q : S[j]? with
    | none => rw [q] at this; cases this
    | some c =>
      rw [q] at this
      rw [Bool.and_eq_true] at this
      rw [List.getD_eq_getElem?_getD, q, Option.getD_some, okC_mapC]
      exact this.1
  have hs : setAll (outN js S.length) S js L = S := by rw [← hL]; exact setAll_same hg
  refine OkE_callW hj hc hda hL (hm.mono (fun d S' hh => ?_) fun x S' hh => ?_)
  · obtain ⟨rfl, h1, h2⟩ := hh
    refine ⟨S', [], by simp, hlen, (cl_flat h1).1, hall, rfl, ?_⟩
    rw [(cl_flat h1).2.1, hs]
    simpa using h2
  · obtain ⟨rfl, h2⟩ := hh
    refine ⟨S', [], by simp, hlen, hall, rfl, ?_⟩
    rw [hs]
    simpa using h2
end
end DL

/-! The data layer: list(d.items()), tuple(d.items()), dict(d), dict(pairs) of names told twice. -/
namespace DL
open PySem PySem.Spec PyProof.Rows L2
open LiI (putT putT_off putT_at paired_ix)
section
variable {X : Cx} {e : Expr} {te : TE} {p apos cpos pos : Pos}
theorem paired_imp {α β : Type} {F G : α → β → Prop} : ∀ {xs : List α} {ys : List β}, Paired F xs ys → (∀ a b, a ∈ xs → F a b → G a b) → Paired G xs ys
  | _, _, .nil, _ => .nil
  | _, _, .cons h t, k => .cons (k _ _ (by simp) h) (paired_imp t fun a b m => k a b (by simp [m]))
theorem items_tups {pins : List (Addr × Obj)} {σ : L2.St} {H : Hp} {s : Shared} {lo : Addr} {h' : Heap} {tk : Nat} {kvs : List (Key × V)} {vs : List (Key × Value)} {as : List Addr} (I : Inv X pins σ H s) (kv : KV kvs vs)
    (hk : ∀ b o, s.heap.get? b = some o → h'.get? b = some o) (hlo : s.heap.objs.size ≤ lo) (hl : as.length = vs.length) (hG : PySem.W.KdxG (mixKind X.prog X.w) vs lo h' as) :
    ∃ H' : Hp, (∀ b o, H b = some o → H' b = some o) ∧ (∀ t ∈ as, H t = none) ∧ (∀ b, b ∉ as → H' b = H b) ∧ Paired (fun (t : Addr) (q : Key × V) => H' t = some (.tup [kV q.1, q.2])) as kvs ∧ Inv X pins σ H' { s with heap := h', toks := tk } := by
  have lk : kvs.length = vs.length := Paired.length kv
  have nd : as.Nodup := List.Pairwise.imp (fun {a b} (h : a < b) => Nat.ne_of_lt h) hG.rise
  have new : ∀ t ∈ as, H t = none := fun t ht => I.hok.fresh (Nat.le_of_lt (Nat.lt_of_le_of_lt hlo (hG.above t ht)))
  have atP := putT_at as kvs H (by omega) nd
  have low : ∀ b o, s.heap.get? b = some o → b ∉ as := fun b o e z => absurd (Heap.lt_size e) (Nat.not_lt.mpr (Nat.le_of_lt (Nat.lt_of_le_of_lt hlo (hG.above b z))))
  have kp : ∀ b u, H b = some u → (putT H as kvs) b = some u := fun b u e => by
    rw [putT_off as kvs _ (fun z => by rw [new b z] at e; cases e)]
    exact e
  refine ⟨putT H as kvs, kp, new, fun b hb => putT_off as kvs _ hb, atP, ?_⟩
  refine I.call' (ch := []) rfl ⟨fun b o q _ _ _ => hk b o q, fun b o q _ _ _ => ⟨o.slots, hk b o q⟩, fun b o q n _ => ?_, fun b o q _ => ⟨o, hk b o q⟩, fun b xs q => kp b _ q, fun b o u q => kp b _ q, fun b ps q => ⟨#[], by rw [kp b _ q]; simp⟩⟩ (fun b u q => ?_) I.bare fun b z => by simp at z
  · rw [putT_off as kvs _ (low b o q)]
    exact n
  · by_cases hb : b ∈ as
    · obtain ⟨j, pk, e1, e2, e3⟩ := paired_ix atP hb
      rw [e3] at q
      cases q
      obtain ⟨key, k, x, f1, f2, f3⟩ := hG.pairs j b e1
      obtain ⟨qv, g1, g2, g3⟩ := paired_get kv e2
      rw [f1] at g1
      cases g1
      have rk : RelV (kV pk.1) key := by
        rw [g2]
        exact relV_key (show keyIs k key = true from f2)
      exact ⟨by show 2 ≤ sizeLine; decide, [key, x], .cons rk (.cons g3 .nil), ⟨_, f3, rfl, _, rfl⟩⟩
    · rw [putT_off as kvs _ hb] at q
      exact (I.hok b u q).stay (fun d v _ y => hk d v y) (fun d y => kp d _ y) fun d xs y => kp d _ y
def rItemsT : V → Hp → VK → Prop := fun x H Q => ∃ (d : Addr) (kvs : List (Key × V)), x = .ref d ∧ H d = some (.dK kvs) ∧
  ∀ (H' : Hp) (p : Addr) (ts : List Addr), (∀ b o, H b = some o → H' b = some o) → H p = none → (∀ t ∈ ts, H t = none) → H' p = some (.tup (ts.map V.ref)) → Paired (fun (t : Addr) (q : Key × V) => H' t = some (.tup [kV q.1, q.2])) ts kvs → Q (.ref p) H'
def tTupItems (te : TE) : TE := fun σ H Q => te σ H fun x H1 => rItemsT x H1 Q
section
variable {prog : Program} {w : World} {A : Around} {E : Value → Shared → Prop} {s : Shared} {r d : Addr} {kvs : List (Key × Value)} {ep : Nat}
theorem code_tuple_items {Q₁ : Value → Shared → Prop} (hh : A.handled = none) (hv : s.heap.IsItemsView r d) (hm : s.heap.DictAt (mixKind prog w) d kvs ep) (hn : kvs.length ≤ sizeLine)
    (h : ∀ (h' : Heap) (tk : Nat) (as : List Addr), (∀ b o, s.heap.get? b = some o → h'.get? b = some o) → as.length = kvs.length → PySem.W.KdxG (mixKind prog w) kvs s.heap.objs.size h' as →
      Q₁ (.ref h'.objs.size) { s with heap := h'.push { cls := .type "tuple", data := .seq (as.map Value.ref).toArray }, toks := tk }) :
    codeAny (model prog w) A (.call (.builtin "tuple.__new__") ⟨[.type "tuple", .ref r], []⟩) (wants Q₁ E) s := by
  refine codeAny_of_tree ?_
  show wpAny _ A.in1 (do checkBuiltinCall "tuple.__new__" ⟨[.type "tuple", .ref r], []⟩; again (.builtin "tuple.__new__" ⟨[.type "tuple", .ref r], []⟩)) _ _ s
  refine wpAny_bind (wpAny_of_eq (F.newCall_tuple_1 _) (wpAny_pure ⟨plainId_quiet F.plain_tuple_new _, codeAny_builtin F.entry_tuple_new ?_⟩))
  rw [Around.under_plainId F.plain_tuple_new _]
  have hsub := sub_tuple_self
  have hinit := init_tuple_lookup
  have hmh := madeHere_tuple
  have hTI : s.TypeIs (.ref r) "dict_items" := let ⟨o, ho, hc, _⟩ := hv; ⟨o, ho, hc⟩
  have hh1 : A.in1.handled = none := hh
  wp_walk using wpAny_typeOf hTI, PySem.W.kdx_collect (knd := mixKind prog w) (A := A.in1) hh1 hv hm hn
  intro h' tk as hk hl hG
  show wpAny _ _ (Builtin.Tuple.tupleExact (as.map Value.ref).toArray >>= fun v => ret v) _ _ _
  unfold Builtin.Tuple.tupleExact
  refine wpAny_bind (wpAny_newObj_type ?_ (by show (as.map Value.ref).toArray.size ≤ sizeLine; rw [List.size_toArray, List.length_map, hl]; exact hn))
  exact wpAny_pure (h h' tk as hk hl hG)
theorem call_tuple_items {Q : Value → Shared → Prop} (hh : A.handled = none) (hv : s.heap.IsItemsView r d) (hm : s.heap.DictAt (mixKind prog w) d kvs ep) (hn : kvs.length ≤ sizeLine)
    (hQ : ∀ (h' : Heap) (tk : Nat) (as : List Addr), (∀ b o, s.heap.get? b = some o → h'.get? b = some o) → as.length = kvs.length → PySem.W.KdxG (mixKind prog w) kvs s.heap.objs.size h' as →
      Q (.ref h'.objs.size) { s with heap := h'.push { cls := .type "tuple", data := .seq (as.map Value.ref).toArray }, toks := tk }) :
    wpAny (model prog w) A (call (.type "tuple") [.ref r]) Q E s := by
  refine callType_codes (Q₁ := fun obj s₁ => s₁.TypeIs obj "tuple" ∧ Q obj s₁) F.called_tuple (F.typeCall_tuple_1 _) F.entry_object_init
    (code_tuple_items (A := A.in1) hh hv hm hn fun h' tk as hk hl hG => ⟨⟨_, Heap.get?_push_size _ rfl, rfl⟩, hQ h' tk as hk hl hG⟩) fun obj s₁ h₁ => ?_
  exact ⟨h₁.1, F.args_object_init_2 obj _, object_init_meets F.called_tuple.init.lookup F.called_tuple.made (by decide) prog w A.in1 _ s₁ ⟨h₁.1, rfl, h₁.2⟩⟩
end
/-- tuple(e.items()) -/
theorem pe_tupItems (hc : X.calm = true) (he : PE X e te) (hg : Gl X "tuple") (hm : X.mg "tuple" = none) (hv : bootBuiltins "tuple" = some (.type "tuple")) (hbase : attributeBase e "items" X.env (eval e X.env) = eval e X.env := by rfl) (hline : (apos.endLine == cpos.line) = true := by rfl)
    (hs : starEach [.Call (.Attribute e "items" apos) [] [] cpos] X.env = (false, eval (.Call (.Attribute e "items" apos) [] [] cpos) X.env) :: starEach [] X.env := by rfl) :
    PE X (.Call (.Name "tuple" p) [.Call (.Attribute e "items" apos) [] [] cpos] [] pos) (tTupItems te) := by
  refine ⟨fun pins s σ H Q I hq => ?_⟩
  refine wpAny_Call_Name_kw (ld_blt I hg hm hv ?_)
  refine PyProof.Rows.callWith_type1 ?_ hs rfl
  rw [hs]
  show wpAny _ _ (spliced ((false, eval (.Call (.Attribute e "items" apos) [] [] cpos) X.env) :: backTo pos (starEach [] X.env))) _ _ s
  refine Calls.spliced_cons ?_
  refine wpAny_Call_method (T := "dict") (id := "dict.items") hbase rfl hline F.plainAttrs_dict F.slot_dict_items F.type_dict_items (thn (he.run pins s σ H _ I hq) fun u s1 ⟨x, H1, I1, rx, d, kvs, ex, hd, q⟩ => ?_)
  subst ex
  obtain rfl : u = Value.ref d := rx
  obtain ⟨hz, hs0, vs, kv, hdo⟩ := I1.hok d _ hd
  obtain ⟨ep, hat⟩ := hdo.dictAt
  have lk : kvs.length = vs.length := Paired.length kv
  have I2 : Inv X pins σ H1 { s1 with heap := s1.heap.push { cls := .type "dict_items", data := .fields #[.ref d] } } := I1.kept (t' := s1.toks) fun b ob q => Heap.get?_push_of_some _ q
  refine ⟨hdo.typeIs, hdo.mapOf.noDict, ?_⟩
  show wpAny _ _ (callWith cpos (.builtin "dict.items") [.ref d] [] []) _ X.xe s1
  refine method_meetsIn F.slot_dict_items F.entry_dict_items rfl (PySem.evalArgs_none ⟨rfl, hdo.typeIs, F.args_dict_items_1 _, _, meets_dict_items (mixKind X.prog X.w) d hs0, ⟨vs, hdo⟩, ?_⟩)
  refine Calls.spliced_nil ?_
  refine call_tuple_items (kvs := vs) (ep := ep) (I1.ok.hd hc) ⟨_, Heap.get?_push_size _ rfl, rfl, rfl⟩ (hat.push _) (by omega) fun h' tk as hk hl hG => ?_
  obtain ⟨H', k1, k3, k4, k6, J⟩ := items_tups (tk := tk) I2 kv hk (Nat.le_refl _) hl hG
  have hfr : H' h'.objs.size = none := J.hok.fresh (Nat.le_refl _)
  have hle : s1.heap.objs.size < h'.objs.size := by
    have := hk s1.heap.objs.size _ (Heap.get?_push_size _ rfl)
    exact Heap.lt_size this
  have hfr1 : H1 h'.objs.size = none := I1.hok.fresh (Nat.le_of_lt hle)
  have hna : h'.objs.size ∉ as := fun z => Nat.lt_irrefl _ (hG.there z)
  refine ⟨.ref h'.objs.size, upd H' h'.objs.size (.tup (as.map V.ref)), J.laid (t' := tk) (fun b o e => Heap.get?_push_of_some _ e) (Nat.le_refl _) (show ObjOk X.prog X.w _ _ _ (.tup (as.map V.ref)) from ⟨by rw [List.length_map]; omega, as.map Value.ref, L2.vals_refs as, IsTup.new _ _⟩), rfl, q _ _ as ?_ hfr1 k3 upd_same ?_⟩
  · intro b o e
    rw [upd_ne (fun z => by rw [z, hfr1] at e; cases e)]
    exact k1 b o e
  · refine paired_imp k6 fun t q ht h => ?_
    rw [upd_ne (fun z => hna (by rw [← z]; exact ht))]
    exact h
end
def itsD : List Key → List D → List D
  | k :: ks, d :: ds => .tup [keyB k, d] :: itsD ks ds
  | _, _ => []
def gItL (S : Sto) (o : D) : Option D := match view S o with
  | .dct ks ds => some (.lst (itsD ks ds))
  | _ => none
def gItT (S : Sto) (o : D) : Option D := match view S o with
  | .dct ks ds => some (.tup (itsD ks ds))
  | _ => none
def gDictC (S : Sto) : List D → Option D
  | [d] => match view S d with
    | .dct ks ds => some (.dct ks ds)
    | _ => none
  | _ => none
def mrg : List Key → List D → List Key → List D → List Key × List D
  | ks, ds, k :: r, d :: t => mrg (dputK k ks) (dputD k d ks ds) r t
  | ks, ds, _, _ => (ks, ds)
def gDictM (S : Sto) : List D → Option D
  | [d] => match view S d with
    | .lst zs => match prsT zs with
      | some (ks, ds) => some (.dct (mrg [] [] ks ds).1 (mrg [] [] ks ds).2)
      | none => none
    | _ => none
  | _ => none
section
variable {X : Cx} {K : PySem.W.Frag} {cA : Str → Addr} {W : WX} {B : Addr → Prop} {ι : List Addr} {S : Sto} {H H' : Hp} {a b o i x : Expr} {ma mb mo mv mi mx : ME} {pos apos p cpos : Pos} {es : List Expr} {xs : MA}
theorem its_V (rs : RS K cA B ι S H) (sm : Same H H') : ∀ {ks : List Key} {ds : List D} {us : List V} {ts : List Addr}, ks.length = us.length → RDs K cA B ι H ds us → (∀ t ∈ ts, H t = none) → Paired (fun (t : Addr) (q : Key × V) => H' t = some (.tup [kV q.1, q.2])) ts (ks.zip us) → RDs K cA B ι H' (itsD ks ds) (ts.map V.ref)
  | [], ds, us, ts, hl, r, hn, hp => by
    cases hp
    exact .nil
  | k :: ks, [], us, ts, hl, r, hn, hp => by
    rw [r.nil_inv] at hl
    cases hl
  | k :: ks, d :: ds, us, ts, hl, r, hn, hp => by
    obtain ⟨u, us, rfl, h1, h2⟩ := r.cons_inv
    rw [List.zip_cons_cons] at hp
    cases hp with
    | cons h t =>
      rename_i t0 ts
      refine .cons ?_ (its_V rs sm (by simpa using hl) h2 (fun t ht => hn t (by simp [ht])) t)
      have np := hn t0 (by simp)
      have hk : RD K cA B ι H' (keyB k) (kV k) := by
        have := (keyB_V (K := K) (cA := cA) (B := B) (ι := ι) (H := H') [k]).cons_inv
        obtain ⟨v, t, e, h1, _⟩ := this
        cases e
        exact h1
      exact .mk_tup (.inl ⟨not_in rs np, not_B rs np, .inl h⟩) (.cons hk (.cons (RD.fr (Fr.same sm) _ _ h1) .nil))
theorem q_listItems (hc : X.calm = true) (ho : PE X o (tE X.K cA W mo)) (hg : Gl X "list") (hm : X.mg "list" = none) (hv : bootBuiltins "list" = some (.type "list")) (hbase : attributeBase o "items" X.env (eval o X.env) = eval o X.env := by rfl) (hline : (apos.endLine == cpos.line) = true := by rfl)
    (hs : starEach [.Call (.Attribute o "items" apos) [] [] cpos] X.env = (false, eval (.Call (.Attribute o "items" apos) [] [] cpos) X.env) :: starEach [] X.env := by rfl) :
    PE X (.Call (.Name "list" p) [.Call (.Attribute o "items" apos) [] [] cpos] [] pos) (tE X.K cA W (e1 gItL mo)) :=
  PEi (LiI.pe_listItems hc ho hg hm hv hbase hline hs) fun σ H Q ⟨B, ι, e, S, re, p⟩ =>
    .of re (po_bind re p fun ι1 v1 H1 d1 S1 f1 r1 rd1 p1 => by
      obtain ⟨d, hd, q⟩ := po_opt p1 r1.rs
      unfold gItL at hd
      split at hd
      · rename_i ks ds e1
        cases hd
        obtain ⟨a, us, rfl, h1, h2, h3⟩ := v_dct r1.rs rd1 e1
        refine ⟨a, ks.zip us, rfl, h1, fun H' p ts k1 k2 k3 k4 k5 k6 => q _ _ k1 ?_⟩
        exact .mk_lst ⟨not_in r1.rs k2, not_B r1.rs k2, k5⟩ (its_V r1.rs k1 h2 h3 k3 k6)
      · cases hd)
theorem q_tupItems (hc : X.calm = true) (ho : PE X o (tE X.K cA W mo)) (hg : Gl X "tuple") (hm : X.mg "tuple" = none) (hv : bootBuiltins "tuple" = some (.type "tuple")) (hbase : attributeBase o "items" X.env (eval o X.env) = eval o X.env := by rfl) (hline : (apos.endLine == cpos.line) = true := by rfl)
    (hs : starEach [.Call (.Attribute o "items" apos) [] [] cpos] X.env = (false, eval (.Call (.Attribute o "items" apos) [] [] cpos) X.env) :: starEach [] X.env := by rfl) :
    PE X (.Call (.Name "tuple" p) [.Call (.Attribute o "items" apos) [] [] cpos] [] pos) (tE X.K cA W (e1 gItT mo)) :=
  PEi (pe_tupItems hc ho hg hm hv hbase hline hs) fun σ H Q ⟨B, ι, e, S, re, p⟩ =>
    .of re (po_bind re p fun ι1 v1 H1 d1 S1 f1 r1 rd1 p1 => by
      obtain ⟨d, hd, q⟩ := po_opt p1 r1.rs
      unfold gItT at hd
      split at hd
      · rename_i ks ds e1
        cases hd
        obtain ⟨a, us, rfl, h1, h2, h3⟩ := v_dct r1.rs rd1 e1
        refine ⟨a, ks.zip us, rfl, h1, fun H' p ts k1 k2 k3 k5 k6 => q _ _ k1 ?_⟩
        exact .mk_tup (.inl ⟨not_in r1.rs k2, not_B r1.rs k2, .inl k5⟩) (its_V r1.rs k1 h2 h3 k3 k6)
      · cases hd)
theorem q_dictCN {z : Str} {pp : Pos} (hg : Gl X z) (hm : X.mg z = none) (hv : bootBuiltins z = some (.type "dict")) (ha : PA X (a :: es) (tA X.K cA W xs)) (hn : z ≠ "__name__" := by decide) (hdb : (z == ("__debug__" : Str)) = false := by decide)
    (he : starEach (a :: es) X.env = (false, eval a X.env) :: starEach es X.env := by rfl) (hpl : (backTo pos (starEach es X.env)).any (·.1) = false := by rfl) : PE X (.Call (.Name z pp) (a :: es) [] pos) (tE X.K cA W (eCelD (eB gDictC xs))) :=
  PEi (pe_callTy call_dictD hg hm hv ha hn hdb he hpl) fun σ H Q ⟨B, ι, e, S, re, p⟩ => by
    have p' : PoE X.K cA W B ((xs e S).bind fun ds S1 => celD (opt (gDictC S1 ds) S1)) ι σ H Q := by
      rw [← celD_bindA]; exact p
    refine .of re (poA_bind re p' fun ι1 vs H1 ds S1 f1 r1 rd1 p1 => ?_)
    cases hg : gDictC S1 ds with
    | none => rw [hg] at p1; exact p1.elim
    | some d =>
      rw [hg] at p1
      unfold gDictC at hg
      split at hg
      · obtain ⟨v, rfl, rd0⟩ := rd1.one
        split at hg
        · rename_i ks es e
          cases hg
          obtain ⟨a, us, rfl, h1, h2, h3⟩ := v_dct r1.rs rd0 e
          refine ⟨a, ks.zip us, rfl, .inl h1, fun n np => ?_⟩
          have fr : Fr ι1 (ι1 ++ [n]) H1 (upd H1 n (.dK (ks.zip us))) := Fr.push (not_in r1.rs np) np
          exact p1 _ _ _ fr (r1.rs.push np ⟨us, upd_same, h2, RDs.fr fr _ _ h3⟩) (.mk_obj (by rw [← r1.rs.len, List.getElem?_append_right (Nat.le_refl _)]; simp))
        · cases hg
      · cases hg
theorem mrg_V : ∀ {r : List Key} {t : List D} {ws : List V} {ks : List Key} {ds : List D} {us : List V}, ks.length = us.length → RDs K cA B ι H ds us → r.length = ws.length → RDs K cA B ι H t ws →
    ∃ us', mergeK (ks.zip us) (r.zip ws) = (mrg ks ds r t).1.zip us' ∧ (mrg ks ds r t).1.length = us'.length ∧ RDs K cA B ι H (mrg ks ds r t).2 us'
  | [], t, ws, ks, ds, us, hl, rd, hr, rt => by
    have e : mrg ks ds [] t = (ks, ds) := by cases t <;> rfl
    rw [e]
    exact ⟨us, rfl, hl, rd⟩
  | k :: r, [], ws, ks, ds, us, hl, rd, hr, rt => by
    rw [rt.nil_inv] at hr
    cases hr
  | k :: r, d :: t, ws, ks, ds, us, hl, rd, hr, rt => by
    obtain ⟨w, ws, rfl, h1, h2⟩ := rt.cons_inv
    obtain ⟨us1, g1, g2, g3⟩ := dput_V (k := k) h1 hl rd
    obtain ⟨us', g4, g5, g6⟩ := mrg_V (r := r) g2 g3 (by simpa using hr) h2
    refine ⟨us', ?_, g5, g6⟩
    rw [List.zip_cons_cons]
    show mergeK (putK (ks.zip us) k w) (r.zip ws) = _
    rw [g1, g4]
    rfl
theorem c_dictM (hc : X.calm = true) : CB X (.type "dict") gDictM := .mk' (call_dictP hc) fun cA B ι S H xs ds d Q rs rd hg q => by
  unfold gDictM at hg
  split at hg
  · obtain ⟨v, rfl, rd1⟩ := rd.one
    split at hg
    · rename_i zs e
      split at hg
      · rename_i ks es e2
        cases hg
        obtain ⟨a, vs, rfl, h1, h2⟩ := v_lst rs rd1 e
        obtain ⟨ps, us, rfl, g1, g2, g3⟩ := prsT_V h2 e2
        refine ⟨a, ps, ks.zip us, rfl, h1, g3, fun n np => ?_⟩
        obtain ⟨us', m1, m2, m3⟩ := mrg_V (ks := []) (ds := []) (us := []) rfl .nil g1 g2
        rw [show mergeK [] (ks.zip us) = mergeK (([] : List Key).zip []) (ks.zip us) from rfl, m1]
        refine q _ _ (same_new np) ?_
        rw [RD]
        exact ⟨n, us', rfl, not_in rs np, not_B rs np, upd_same, m2, RDs.fr (Fr.same (same_new np)) _ _ m3⟩
      · cases hg
    · cases hg
  · cases hg
end
/-! ### plain -/
section
variable {Q : QE} {X : QX} {d o : D} {ds zs : List D} {ks : List Key} {S : Sto}
theorem k_itL (h : view S o = .dct ks ds) (q : Q (.lst (itsD ks ds)) S) : OkE (opt (gItL S o) S) Q X := by
  have : gItL S o = some (.lst (itsD ks ds)) := by unfold gItL; rw [h]
  rw [this]; exact q
theorem k_itT (h : view S o = .dct ks ds) (q : Q (.tup (itsD ks ds)) S) : OkE (opt (gItT S o) S) Q X := by
  have : gItT S o = some (.tup (itsD ks ds)) := by unfold gItT; rw [h]
  rw [this]; exact q
theorem k_dictC (h : view S d = .dct ks ds) (q : Q (.dct ks ds) S) : OkE (opt (gDictC S [d]) S) Q X := by
  have : gDictC S [d] = some (.dct ks ds) := by simp only [gDictC, h]
  rw [this]; exact q
theorem k_dictM (h : view S d = .lst zs) (h2 : prsT zs = some (ks, ds)) (q : Q (.dct (mrg [] [] ks ds).1 (mrg [] [] ks ds).2) S) : OkE (opt (gDictM S [d]) S) Q X := by
  have : gDictM S [d] = some (.dct (mrg [] [] ks ds).1 (mrg [] [] ks ds).2) := by simp only [gDictM, h, h2]
  rw [this]; exact q
end
end DL

/-! The data layer: self.x += .., tables of the module (in, [..]), max of a list, * of great numbers. -/
namespace DL
open PySem PySem.Spec PyProof.Rows L2
section
variable {X : Cx} {K : PySem.W.Frag} {cA : Str → Addr} {W : WX} {B : Addr → Prop} {ι : List Addr} {S : Sto} {H : Hp} {a b o v : Expr} {ma mb mo mv : ME} {pos tpos : Pos} {g : Sto → D → D → Option D}
def sFldA (C f : Str) (g : Sto → D → D → Option D) (mo mv : ME) : MS := fun e S => (mo e S).bindS e fun o S1 => match fldG C f S1 o with
  | some x => (mv e S1).bindS e fun y S2 => match g S2 x y with
    | some z => setF C f S2 e z o
    | none => .bad
  | none => .bad
theorem s_fldA {C f : Str} {op : Operator} (hg : O2 X (inplaceOp op) g) (T : FC X.K X.mg cA C) (n : NoAttr X.K (cA C) f) (hv : PE X v (tE X.K cA W mv)) (ho : PE X o (tE X.K cA W mo)) : PS X (.AugAssign (.Attribute o f tpos) op v pos) (tS X.K cA W (sFldA C f g mo mv)) := by
  obtain ⟨r, h1, h2⟩ := hg.ex
  have hop : InOp X op r := fun pins s σ H x y u v Q I rx ry q => h1 pins s σ H x y u v Q I rx ry q
  refine PSi (ps_fldaug ho hv hop) fun D' σ H ⟨B, ι, e, S, re, p⟩ => .of re (po_bindS re p fun ι1 v1 H1 d1 S1 f1 r1 rd1 p1 => ?_)
  split at p1
  · rename_i x hx
    obtain ⟨a, dx, fs, u, rfl, g1, g2, g3⟩ := fld_at r1.rs rd1 hx
    refine ⟨a, cA C, dx, fs, u, rfl, g1, T.cl, n, g2, .of r1 (po_bindS r1 p1 fun ι2 v2 H2 d2 S2 f2 r2 rd2 p2 => ?_)⟩
    split at p2
    · rename_i z hz
      refine h2 cA B ι2 S2 H2 u v2 x d2 z _ r2.rs (RD.fr f2 _ _ g3) rd2 hz fun zv H3 sm rd => ?_
      have r3 := r2.fr (Fr.same sm) (r2.rs.same sm)
      obtain ⟨a', dx', fs', e1, q1, q2, q3⟩ := setF_at r3 rd (RD.fr (Fr.same sm) _ _ (RD.fr f2 _ _ rd1)) (PoS.on (Fr.same sm) p2)
      cases e1
      exact ⟨dx', fs', q1, q2, q3⟩
    · exact p2.elim
  · exact p1.elim
/-! ### tables of the module -/
def gKIn (tb : List (Str × Str)) (S : Sto) : D → Option D
  | .str z => some (.bl (tb.lookup z).isSome)
  | _ => none
def gKIx (tb : List (Str × Str)) (S : Sto) : D → Option D
  | .str z => (tb.lookup z).map .str
  | _ => none
theorem nsIn_look {d : Addr} {tb : List (Str × Str)} (look : ∀ z, (tb.lookup z = none → PySem.W.nsIn K d z = some none) ∧ ∀ y, tb.lookup z = some y → ∃ t, PySem.W.nsIn K d z = some (some (.str y t))) (z : Str) : ∃ r, PySem.W.nsIn K d z = some r ∧ r.isSome = (tb.lookup z).isSome := by
  cases q : tb.lookup z with
  | none => exact ⟨none, (look z).1 q, rfl⟩
  | some y =>
    obtain ⟨t, h⟩ := (look z).2 y q
    exact ⟨_, h, rfl⟩
theorem use_kin {tb : List (Str × Str)} {d : Addr} (look : ∀ z, (tb.lookup z = none → PySem.W.nsIn X.K d z = some none) ∧ ∀ y, tb.lookup z = some y → ∃ t, PySem.W.nsIn X.K d z = some (some (.str y t))) : ∀ σ H Q, tE X.K cA W (e1 (gKIn tb) ma) σ H Q →
    tOp (fun x y H Q => ∃ (z : Str) (r : Option Value), x = .str z ∧ y = .ref d ∧ PySem.W.nsIn X.K d z = some r ∧ Q (.bl r.isSome) H) (tE X.K cA W ma) (tC (.ref d)) σ H Q := fun σ H Q ⟨B, ι, e, S, re, p⟩ =>
  .of re (po_bind re p fun ι1 v1 H1 d1 S1 f1 r1 rd1 p1 => by
    obtain ⟨r, hr, q⟩ := po_opt p1 r1.rs
    cases d1 with
    | str z =>
      cases hr
      obtain ⟨r, h1, h2⟩ := nsIn_look look z
      refine ⟨z, r, rd1.str, rfl, h1, ?_⟩
      rw [h2]
      exact q _ _ same_refl RD.mk_bl
    | _ => cases hr)
theorem q_kin {x : Str} {tb : List (Str × Str)} {d : Addr} {p : Pos} (hg : Gl X x) (hm : X.mg x = some (.ref d)) (ht : tabW X.K d = some (tb.map fun p => (p.1, PyData.keyHash X.w.params p.1, p.2))) (ha : PE X a (tE X.K cA W ma)) (hd : (x == ("__debug__" : Str)) = false := by decide) :
    PE X (.Compare a [.In] [.Name x p] pos) (tE X.K cA W (e1 (gKIn tb) ma)) := by
  obtain ⟨es, n, D, look⟩ := tab_ok ht
  exact PEi (pe_cmpR (op_in_kd D) ha (pe_glob (v := .ref d) hg hm rfl hd) (by first | rfl | exact nomark _)) (use_kin look)
theorem k_kin {x : Str} {tb : List (Str × Str)} {d : Addr} {p : Pos} (hg : Gl X x) (hm : X.mg x = some (.ref d)) (ht : tabW X.K d = some (tb.map fun p => (p.1, PyData.keyHash X.w.params p.1, p.2))) (ha : PE X a (tE X.K cA W ma)) (hd : (x == ("__debug__" : Str)) = false := by decide) :
    PT X (.Compare a [.In] [.Name x p] pos) (tT X.K cA W (tOf (e1 (gKIn tb) ma))) := by
  obtain ⟨es, n, D, look⟩ := tab_ok ht
  exact PTi (pt_cmpR (op_in_kd D) ha (pe_glob (v := .ref d) hg hm rfl hd) (by first | rfl | exact nomark _)) (useT (use_kin look))
/-! ### D[key] -/
theorem q_kix {x : Str} {tb : List (Str × Str)} {d : Addr} {p : Pos} (hg : Gl X x) (hm : X.mg x = some (.ref d)) (ht : tabW X.K d = some (tb.map fun p => (p.1, PyData.keyHash X.w.params p.1, p.2))) (ha : PE X a (tE X.K cA W ma)) (hd : (x == ("__debug__" : Str)) = false := by decide) (hs : PlainIx a := by exact fun _ _ => rfl) :
    PE X (.Subscript (.Name x p) a pos) (tE X.K cA W (e1 (gKIx tb) ma)) := by
  obtain ⟨es, n, D, look⟩ := tab_ok ht
  refine PEi (pe_ix ix_kdict (pe_glob (v := .ref d) hg hm rfl hd) ha hs) fun σ H Q ⟨B, ι, e, S, re, p⟩ => ?_
  refine .of re (po_bind re p fun ι1 v1 H1 d1 S1 f1 r1 rd1 p1 => ?_)
  obtain ⟨r, hr, q⟩ := po_opt p1 r1.rs
  cases d1 with
  | str z =>
    simp only [gKIx] at hr
    cases q2 : tb.lookup z with
    | none => rw [q2] at hr; cases hr
    | some y =>
      rw [q2] at hr
      cases hr
      obtain ⟨t, h3⟩ := (look z).2 y q2
      exact ⟨d, z, .str y, rfl, rd1.str, ⟨es, n, .str y t, D.at_, D.lit, h3, ⟨t, rfl⟩⟩, q _ _ same_refl RD.mk_str⟩
  | _ => cases hr
/-! ### max of a list -/
def gMaxL (S : Sto) : List D → Option D
  | [d] => match view S d with
    | .lst ds => match intL ds with
      | some (n :: ns) => some (.int (ns.foldl max n))
      | _ => none
    | _ => none
  | _ => none
theorem fold_max {m : Int} : ∀ {ns : List Int} {n : Int}, m ∈ n :: ns → (∀ y, y ∈ n :: ns → y ≤ m) → ns.foldl max n = m
  | [], n, h, _ => (List.mem_singleton.mp h).symm
  | k :: ns, n, h, hle => by
    rw [List.foldl_cons]
    have h1 := hle n (by simp)
    have h2 := hle k (by simp)
    refine fold_max (ns := ns) (n := max n k) ?_ fun y hy => ?_
    · rcases List.mem_cons.mp h with h | h
      · exact List.mem_cons.mpr (.inl (by omega))
      · rcases List.mem_cons.mp h with h | h
        · exact List.mem_cons.mpr (.inl (by omega))
        · exact List.mem_cons.mpr (.inr h)
    · rcases List.mem_cons.mp hy with rfl | hy
      · omega
      · exact hle y (by simp [hy])
theorem c_maxL (hc : X.calm = true) : CB X (.builtin "max") gMaxL := .mk' (cr_max hc) fun cA B ι S H xs ds d Q rs rd hg q => by
  unfold gMaxL at hg
  split at hg
  · obtain ⟨v, rfl, rd1⟩ := rd.one
    split at hg
    · rename_i z e
      split at hg
      · rename_i n ns q2
        cases hg
        obtain ⟨p, us, rfl, h3, r⟩ := v_lst rs rd1 e
        have := ints_V r q2
        subst this
        exact ⟨p, n :: ns, rfl, h3, by simp, fun m h1 h2 => by
          rw [fold_max h1 h2] at q
          exact q _ H same_refl RD.mk_int⟩
      · cases hg
    · cases hg
  · cases hg
/-! ### great numbers -/
def gMulX (S : Sto) (a b : D) : Option D := match a, b with
  | .int i, .int j => if (Builtin.Int.intBits i : Int) + (Builtin.Int.intBits j : Int) ≤ 134217728 then some (.int (i * j)) else none
  | _, _ => none
theorem o_mulX : O2 X (binaryOp .Mult) gMulX := o_mk op_mulX fun cA B ι S H x y a b d Q rs ra rb hg q => by
  unfold gMulX at hg
  split at hg
  · split at hg
    · rename_i h
      cases hg
      exact ⟨_, _, ra.int, rb.int, h, q _ H same_refl RD.mk_int⟩
    · cases hg
  · cases hg
end
/-! ### the law, the script's bits told -/
section
variable {P : Program} {w : World} {K : PySem.W.Frag} {mg : Str → Option Value} {base : Heap} {cA : Str → Addr}
def spLawB (K : PySem.W.Frag) (n : Nat) : Sp := fun vs H Q _ => ∃ (a : Addr) (ns : List Int), vs = [.ref a] ∧ SqL K H a (ns.map V.int) ∧ ns.length ≤ n ∧ (∀ z ∈ ns, Builtin.Int.intBits z ≤ 1048576) ∧ ∀ H', Q (.bl true) H'
theorem law_mkB {n : Nat} {sd : Stmt} {f : Addr} {fd : FuncData} {N : List Str} {k : Nat} {body : MS} (F : Fun K "law" "law" sd f fd) (sc : FnScope N ["script"] (defScope sd))
    (hb : ∀ (cdv : Value) (A : Around) (outer : List Env) (s : Shared) (H : Hp) (E : XK), Room k (A.deeper (envOfC "law" (defScope sd) s.heap.objs.size f cdv)) →
      PSs (cxOf CX0 P w K mg base N "law" (defScope sd) f cdv A outer s H E).nox (defBody sd) (tS K cA WF body)) (hm : ∀ ns : List Int, ns.length ≤ n → (∀ z ∈ ns, Builtin.Int.intBits z ≤ 1048576) → ∃ S, fnK N.length body [.scr (ns.map D.int)] [] = .ok (.bl true) S) : FnOk P w K mg base CX0 (k + 1) f fd ["script"] (spLawB K n) := by
  refine F.ok sc (fun vs H Q E h => ?_) (fun cdv A outer s H vs Q E hr h => ⟨_, hb cdv A outer s H E hr, ?_⟩)
  · obtain ⟨a, ns, rfl, _⟩ := h
    rfl
  · obtain ⟨a, ns, rfl, hS, hl, hbt, q⟩ := h
    obtain ⟨S, e⟩ := hm ns hl hbt
    have rs : RS K cA (fun _ => False) [] [] H := ⟨rfl, .nil, fun _ z => z.elim, fun i c z => by simp at z⟩
    have rd : RD K cA (fun _ => False) [] H (.scr (ns.map D.int)) (.ref a) := by
      rw [RD]
      exact ⟨a, ns.map V.int, rfl, hS.imp (fun z => ⟨by simp, fun z => z, z⟩) _root_.id, RDs.int ns⟩
    have r := rel_start (N := N) (.cons rd .nil) rs
    refine .of r ?_
    unfold fnK at e
    cases q2 : body ([D.scr (ns.map D.int)].map some ++ List.replicate (N.length - [D.scr (ns.map D.int)].length) none) [] with
    | bad => rw [q2] at e; cases e
    | brk _ _ => rw [q2] at e; cases e
    | cont _ _ => rw [q2] at e; cases e
    | exc _ _ _ => rw [q2] at e; cases e
    | nx _ _ => rw [q2] at e; cases e
    | ret d S' =>
      rw [q2] at e
      cases e
      exact fun ι' v H' fr r rd => by rw [rd.bl]; exact q H'
end
/-! ### plain -/
section
variable {Q : QE} {QL : QA} {X : QX} {P : PO} {d o i z x y : D} {ds zs rest : List D} {S : Sto} {C f m : Str} {e : En} {n t : Nat} {mo mv mi mx : ME} {g : Sto → D → D → Option D} {fs : List (Str × D)} {tb : List (Str × Str)}
theorem k_sFldA (k : OkE (mo e S) (fun o S1 => ∃ x, fldG C f S1 o = some x ∧ OkE (mv e S1) (fun y S2 => ∃ z, g S2 x y = some z ∧ OkS (setF C f S2 e z o) P) (fun c S => P.ex c e S)) (fun c S => P.ex c e S)) : OkS (sFldA C f g mo mv e S) P := by
  unfold sFldA
  rw [OkE_bindS]
  refine k.imp fun o S1 ⟨x, h1, h2⟩ => ?_
  rw [h1]
  simp only [OkE_bindS]
  refine h2.imp fun y S2 ⟨z, h3, h4⟩ => ?_
  rw [h3]
  exact h4
theorem k_fldI (h : S[n]? = some (.ins C fs)) (h2 : fs.lookup f = some d) : fldG C f S (.obj n) = some d := by
  unfold fldG
  simp only [h, h2, if_true]
theorem kp_kin {z : Str} (q : Q (.bl (tb.lookup z).isSome) S) : OkE (opt (gKIn tb S (.str z)) S) Q X := q
theorem kp_kix {z y : Str} (h : tb.lookup z = some y) (q : Q (.str y) S) : OkE (opt (gKIx tb S (.str z)) S) Q X := by
  have : gKIx tb S (.str z) = some (.str y) := by simp only [gKIx, h, Option.map_some]
  rw [this]; exact q
theorem k_maxL {n : Int} {ns : List Int} (h : view S d = .lst zs) (h2 : intL zs = some (n :: ns)) (q : Q (.int (ns.foldl max n)) S) : OkE (opt (gMaxL S [d]) S) Q X := by
  have : gMaxL S [d] = some (.int (ns.foldl max n)) := by simp only [gMaxL, h, h2]
  rw [this]; exact q
theorem k_mulX {i j : Int} (h : (Builtin.Int.intBits i : Int) + (Builtin.Int.intBits j : Int) ≤ 134217728) (q : Q (.int (i * j)) S) : OkE (opt (gMulX S (.int i) (.int j)) S) Q X := by
  have : gMulX S (.int i) (.int j) = some (.int (i * j)) := by simp only [gMulX]; rw [if_pos h]
  rw [this]; exact q
theorem flas_sR : ∀ l : List Str, flas (l.map D.str) = some (l.map V.str)
  | [] => rfl
  | x :: l => by rw [List.map_cons, flas, flas_sR l]; rfl
theorem inV_sR (x : Str) : ∀ l : List Str, inV (.str x) (l.map V.str) = decide (x ∈ l)
  | [] => rfl
  | y :: l => by
    have ih := inV_sR x l
    unfold inV at ih ⊢
    rw [List.map_cons, List.any_cons, ih]
    show (y == x || decide (x ∈ l)) = _
    have : (y == x) = decide (x = y) := by
      by_cases h : x = y
      · subst h; simp
      · rw [beq_eq_false_iff_ne.mpr fun e => h e.symm, decide_eq_false h]
    rw [this]
    simp
theorem k_inTs {x : Str} (l : List Str) (q : Q (.bl (decide (x ∈ l))) S) : OkE (opt (gIn S (.str x) (.tup (l.map D.str))) S) Q X := by
  have : gIn S (.str x) (.tup (l.map D.str)) = some (.bl (decide (x ∈ l))) := by
    unfold gIn
    simp only [view, fla, flas_sR, inV_sR]
  rw [this]; exact q
theorem k_inLs {x : Str} (l : List Str) (q : Q (.bl (decide (x ∈ l))) S) : OkE (opt (gIn S (.str x) (.lst (l.map D.str))) S) Q X := by
  have : gIn S (.str x) (.lst (l.map D.str)) = some (.bl (decide (x ∈ l))) := by
    unfold gIn
    simp only [view, fla, flas_sR, inV_sR]
  rw [this]; exact q
theorem k_inT2 {x a b : Str} (q : Q (.bl (decide (x ∈ [a, b]))) S) : OkE (opt (gIn S (.str x) (.tup [.str a, .str b])) S) Q X := k_inTs [a, b] q
theorem k_inT3 {x a b c : Str} (q : Q (.bl (decide (x ∈ [a, b, c]))) S) : OkE (opt (gIn S (.str x) (.tup [.str a, .str b, .str c])) S) Q X := k_inTs [a, b, c] q
theorem k_inT4 {x a b c d : Str} (q : Q (.bl (decide (x ∈ [a, b, c, d]))) S) : OkE (opt (gIn S (.str x) (.tup [.str a, .str b, .str c, .str d])) S) Q X := k_inTs [a, b, c, d] q
theorem k_inL2 {x a b : Str} (q : Q (.bl (decide (x ∈ [a, b]))) S) : OkE (opt (gIn S (.str x) (.lst [.str a, .str b])) S) Q X := k_inLs [a, b] q
theorem k_inL3 {x a b c : Str} (q : Q (.bl (decide (x ∈ [a, b, c]))) S) : OkE (opt (gIn S (.str x) (.lst [.str a, .str b, .str c])) S) Q X := k_inLs [a, b, c] q
theorem k_inL4 {x a b c d : Str} (q : Q (.bl (decide (x ∈ [a, b, c, d]))) S) : OkE (opt (gIn S (.str x) (.lst [.str a, .str b, .str c, .str d])) S) Q X := k_inLs [a, b, c, d] q
theorem k_neg {i : Int} (q : Q (.int (-i)) S) : OkE (opt (gNeg S (.int i)) S) Q X := q
end
end DL

namespace Law
open PySem PySem.Spec PyProof.Rows L2 DL
noncomputable def b__law_pot : MS := sSeq (sIf (tOf (e2 (gI iGe) (eB gAbs (aC (eV 0) (aN))) (e2 gPow (eC (.int 10)) (eC (.int 18))))) (sRet (eNew (aC (eB gAbs (aC (eV 0) (aN))) (aC (eV 1) (aN))))) (sPass)) (sRet (eNew (aC (eC (.int 0)) (aC (e2 gMod (e2 gMul (e2 gAdd (e2 gAdd (e2 gMod (eV 0) (eC (.int 2147483647))) (e2 gMul (eC (.int 7919)) (eV 1))) (eC (.int 11))) (eC (.int 48271))) (eC (.int 2147483647))) (aN)))))
noncomputable def m__law_pot : MF := fnK 2 b__law_pot
noncomputable def b__law_take : MS := sSeq (sIf (tOf (e2 (gI iGt) (e2 gIx (eV 0) (eC (.int 0))) (eC (.int 0)))) (sSeq (sSet 2 (e2 gMod (e2 gIx (eV 0) (eC (.int 0))) (eV 1))) (sSeq (sSetI (eV 0) (eC (.int 0)) (e2 gFdiv (e2 gIx (eV 0) (eC (.int 0))) (eV 1))) (sRet (eV 2)))) (sPass)) (sSeq (sSetI (eV 0) (eC (.int 1)) (e2 gMod (e2 gAdd (e2 gMul (e2 gIx (eV 0) (eC (.int 1))) (e2 gIx (eV 0) (eC (.int 1)))) (eC (.int 104729))) (eC (.int 2147483629)))) (sRet (e2 gMod (e2 gFdiv (e2 gMod (e2 gMul (e2 gIx (eV 0) (eC (.int 1))) (eC (.int 48271))) (eC (.int 2147483647))) (eC (.int 7))) (eV 1))))
noncomputable def m__law_take : MF := fnD 3 b__law_take
noncomputable def b__law_signs : MS := sSeq (sSet 0 (eC (.str "abcdefghijklmnopqrstuvwxyzABCDEFGHIJKLMNOPQRSTUVWXYZ0123456789"))) (sRet (e2 gAdd (e2 gAdd (e2 gAdd (e2 gAdd (eV 0) (eC (.str " !#$&'()*+,-./:;<=>?\x40[]^_"))) (eC (.str "`{|}~"))) (eC (.str "\""))) (eC (.str "\\"))))
noncomputable def m__law_signs : MF := fnD 1 b__law_signs
noncomputable def b__law_text : MS := sSeq (sSet 1 (eCall' 0 m__law_signs aN)) (sSeq (sSet 2 (eC (.str ""))) (sSeq (sForR (eCall' 2 m__law_take (aC (eV 0) (aC (eC (.int 5)) (aN)))) (mNm 3) (sSet 2 (e2 gAdd (eV 2) (e2 gIx (eV 1) (eCall' 2 m__law_take (aC (eV 0) (aC (eB gLen (aC (eV 1) (aN))) (aN)))))))) (sSeq (sIf (tOf (e2 gEq (eCall' 2 m__law_take (aC (eV 0) (aC (eC (.int 24)) (aN)))) (eC (.int 7)))) (sSet 2 (e2 gAdd (eV 2) (e2 gMul (eC (.str "z")) (e2 gSub (e2 gAdd (eC (.int 298)) (eCall' 2 m__law_take (aC (eV 0) (aC (eC (.int 4)) (aN))))) (eB gLen (aC (eV 2) (aN))))))) (sPass)) (sRet (eV 2)))))
noncomputable def m__law_text : MF := fnD 4 b__law_text
noncomputable def b__law_tree (r__law_tree : MF) : MS := sSeq (sSet 2 (eCall' 2 m__law_take (aC (eV 0) (aC (eC (.int 7)) (aN))))) (sSeq (sIf (tO (tOf (e2 gEq (eV 1) (eC (.int 0)))) (tOf (e2 gLt (eV 2) (eC (.int 3))))) (sRet (eCall' 1 m__law_text (aC (eV 0) (aN)))) (sPass)) (sSeq (sIf (tOf (e2 gEq (eV 2) (eC (.int 6)))) (sSeq (sSet 3 (eCall' 2 r__law_tree (aC (eV 0) (aC (e2 gSub (eV 1) (eC (.int 1))) (aN))))) (sSeq (sForR (eCall' 2 m__law_take (aC (eV 0) (aC (eC (.int 13)) (aN)))) (mNm 4) (sSet 3 (eTup (aC (eV 3) (aN))))) (sRet (eV 3)))) (sPass)) (sRet (eB gTuple (aC (eLcG (aC (eCall' 2 m__law_take (aC (eV 0) (aC (eC (.int 4)) (aN)))) (aN)) (mNm 4) (tYs) (eCall' 2 r__law_tree (aC (eV 0) (aC (e2 gSub (eV 1) (eC (.int 1))) (aN)))) [4]) (aN))))))
noncomputable def m__law_tree : Nat → MF
  | 0 => fun _ _ => .bad
  | n + 1 => fnD 5 (b__law_tree (m__law_tree n))
noncomputable def b__law_measure (r__law_measure : MF) : MS := sSeq (sIf (tOf (e1 (gIsi "str") (eV 0))) (sSeq (sSet 1 (eCall' 0 m__law_signs aN)) (sRet (eTup (aC (eAn (e2 gLe (eB gLen (aC (eV 0) (aN))) (eC (.int 300))) (eB (gLb allB) (aC (eLc (eV 0) (mNm 4) (tYs) (e2 gIn (eV 4) (eV 1)) [4]) (aN)))) (aC (e2 gAdd (eB gLen (aC (eV 0) (aN))) (eC (.int 1))) (aC (eC (.int 1)) (aN))))))) (sPass)) (sSeq (sIf (tNo (tOf (e1 (gIsi "tuple") (eV 0)))) (sRet (eTup (aC (eC (.bl false)) (aC (eC (.int 0)) (aC (eC (.int 0)) (aN)))))) (sPass)) (sSeq (sSet 2 (eLc (eV 0) (mNm 5) (tYs) (eCall' 1 r__law_measure (aC (eV 5) (aN))) [5])) (sSeq (sSet 3 (eAn (e2 gLe (eB gLen (aC (eV 0) (aN))) (eC (.int 40))) (eB (gLb allB) (aC (eLc (eV 2) (mNm 5) (tYs) (e2 gIx (eV 5) (eC (.int 0))) [5]) (aN))))) (sRet (eTup (aC (eV 3) (aC (e2 gAdd (eC (.int 1)) (eB gSum (aC (eLc (eV 2) (mNm 5) (tYs) (e2 gIx (eV 5) (eC (.int 1))) [5]) (aN)))) (aC (e2 gAdd (eC (.int 1)) (eBK gMaxD (aC (eLc (eV 2) (mNm 5) (tYs) (e2 gIx (eV 5) (eC (.int 2))) [5]) aN) (aC (eC (.int 0)) aN))) (aN)))))))))
noncomputable def m__law_measure : Nat → MF
  | 0 => fun _ _ => .bad
  | n + 1 => fnD 6 (b__law_measure (m__law_measure n))
noncomputable def b__law_is_tree : MS := sSeq (sAsg (mTup 3 (mCons (mNm 1) (mCons (mNm 2) (mCons (mNm 3) (mNil))))) (eCall' 1 (m__law_measure 170) (aC (eV 0) (aN)))) (sRet (eAn (eV 1) (eAn (e2 gLe (eV 2) (eC (.int 600))) (e2 gLe (eV 3) (eC (.int 12))))))
noncomputable def m__law_is_tree : MF := fnD 4 b__law_is_tree
noncomputable def b__law_good_tree : MS := sSeq (sSet 1 (eCall' 2 (m__law_tree 170) (aC (eV 0) (aC (eC (.int 3)) (aN))))) (sSeq (sWh (tNo (tOf (eCall' 1 m__law_is_tree (aC (eV 1) (aN))))) (sSet 1 (e2 gIx (eV 1) (eCall' 2 m__law_take (aC (eV 0) (aC (eB gLen (aC (eV 1) (aN))) (aN))))))) (sRet (eV 1)))
noncomputable def m__law_good_tree : MF := fnD 2 b__law_good_tree
noncomputable def b_tree_text (r_tree_text : MF) : MS := sSeq (sIf (tOf (e1 (gIsi "str") (eV 0))) (sRet (e2 gAdd (e2 gAdd (eC (.str "\"")) (e1 (gRep "\"" "\\\"") (e1 (gRep "\\" "\\\\") (eV 0)))) (eC (.str "\"")))) (sPass)) (sRet (e2 gAdd (e2 gAdd (eC (.str "(")) (eM1 gJoin (eC (.str " ")) (eLc (eV 0) (mNm 1) (tYs) (eCall' 1 r_tree_text (aC (eV 1) (aN))) [1]))) (eC (.str ")"))))
noncomputable def m_tree_text : Nat → MF
  | 0 => fun _ _ => .bad
  | n + 1 => fnD 2 (b_tree_text (m_tree_text n))
noncomputable def b__law_changed : MS := sSeq (sForR (e2 gAdd (eC (.int 1)) (eCall' 2 m__law_take (aC (eV 1) (aC (eC (.int 3)) (aN))))) (mNm 2) (sSeq (sSet 3 (eCall' 2 m__law_take (aC (eV 1) (aC (e2 gAdd (eB gLen (aC (eV 0) (aN))) (eC (.int 1))) (aN))))) (sSeq (sSet 4 (eCall' 2 m__law_take (aC (eV 1) (aC (eC (.int 6)) (aN))))) (sSeq (sSet 5 (e2 gIx (eC (.str "()\"\\ a")) (eCall' 2 m__law_take (aC (eV 1) (aC (eC (.int 6)) (aN)))))) (sIf (tOf (e2 gEq (eV 4) (eC (.int 0)))) (sSet 0 (e2 gAdd (eSlH (eV 0) (eV 3)) (eSlL (eV 0) (e2 gAdd (eV 3) (eC (.int 1)))))) (sIf (tOf (e2 gEq (eV 4) (eC (.int 1)))) (sSet 0 (e2 gAdd (e2 gAdd (eSlH (eV 0) (eV 3)) (eV 5)) (eSlL (eV 0) (eV 3)))) (sIf (tOf (e2 gEq (eV 4) (eC (.int 2)))) (sSet 0 (e2 gAdd (e2 gAdd (eSlH (eV 0) (eV 3)) (eV 5)) (eSlL (eV 0) (e2 gAdd (eV 3) (eC (.int 1)))))) (sIf (tOf (e2 gEq (eV 4) (eC (.int 3)))) (sSet 0 (e2 gAdd (eSlH (eV 0) (eV 3)) (eSlL (eV 0) (eB gMax2 (aC (eC (.int 0)) (aC (e2 gSub (eV 3) (eC (.int 3))) (aN))))))) (sIf (tOf (e2 gEq (eV 4) (eC (.int 4)))) (sSet 0 (eSlL (eV 0) (eV 3))) (sSet 0 (e2 gAdd (eV 0) (e2 gMul (eC (.str " ")) (e2 gMod (eV 3) (eC (.int 2))))))))))))))) (sRet (eV 0))
noncomputable def m__law_changed : MF := fnD 6 b__law_changed
noncomputable def b__law_text_in : MS := sSeq (sSet 2 (eC (.str ""))) (sSeq (sWh (tOf (e2 gLt (e2 gIx (eV 1) (eC (.int 0))) (eB gLen (aC (eV 0) (aN))))) (sSeq (sSet 3 (e2 gIx (eV 0) (e2 gIx (eV 1) (eC (.int 0))))) (sSeq (sSetI (eV 1) (eC (.int 0)) (e2 gAdd (e2 gIx (eV 1) (eC (.int 0))) (eC (.int 1)))) (sSeq (sIf (tOf (e2 gEq (eV 3) (eC (.str "\"")))) (sRet (eV 2)) (sPass)) (sSeq (sIf (tOf (e2 gEq (eV 3) (eC (.str "\\")))) (sSeq (sIf (tOf (e2 gNin (eSl2 (eV 0) (e2 gIx (eV 1) (eC (.int 0))) (e2 gAdd (e2 gIx (eV 1) (eC (.int 0))) (eC (.int 1)))) (eLst (aC (eC (.str "\"")) (aC (eC (.str "\\")) (aN)))))) (sRet (eC .non)) (sPass)) (sSeq (sSet 3 (e2 gIx (eV 0) (e2 gIx (eV 1) (eC (.int 0))))) (sSetI (eV 1) (eC (.int 0)) (e2 gAdd (e2 gIx (eV 1) (eC (.int 0))) (eC (.int 1)))))) (sPass)) (sSet 2 (e2 gAdd (eV 2) (eV 3)))))))) (sRet (eC .non)))
noncomputable def m__law_text_in : MF := fnD 4 b__law_text_in
noncomputable def b__law_tree_in (r__law_tree_in : MF) : MS := sSeq (sSet 2 (eSl2 (eV 0) (e2 gIx (eV 1) (eC (.int 0))) (e2 gAdd (e2 gIx (eV 1) (eC (.int 0))) (eC (.int 1))))) (sSeq (sSetI (eV 1) (eC (.int 0)) (e2 gAdd (e2 gIx (eV 1) (eC (.int 0))) (eC (.int 1)))) (sSeq (sIf (tOf (e2 gEq (eV 2) (eC (.str "\"")))) (sRet (eCall' 2 m__law_text_in (aC (eV 0) (aC (eV 1) (aN))))) (sPass)) (sSeq (sIf (tOf (e2 gNe (eV 2) (eC (.str "(")))) (sRet (eC .non)) (sPass)) (sSeq (sIf (tOf (e2 gEq (eSl2 (eV 0) (e2 gIx (eV 1) (eC (.int 0))) (e2 gAdd (e2 gIx (eV 1) (eC (.int 0))) (eC (.int 1)))) (eC (.str ")")))) (sSeq (sSetI (eV 1) (eC (.int 0)) (e2 gAdd (e2 gIx (eV 1) (eC (.int 0))) (eC (.int 1)))) (sRet (eTup (aN)))) (sPass)) (sSeq (sSet 3 (eNew (aN))) (sSeq (sWh (tOf (e2 gNe (eV 2) (eC (.str ")")))) (sSeq (sSet 4 (eCall' 2 r__law_tree_in (aC (eV 0) (aC (eV 1) (aN))))) (sSeq (sIf (tOf (e2 gIs (eV 4) (eC .non))) (sRet (eC .non)) (sPass)) (sSeq (sEx (eApp (eV 3) (eV 4))) (sSeq (sSet 2 (eSl2 (eV 0) (e2 gIx (eV 1) (eC (.int 0))) (e2 gAdd (e2 gIx (eV 1) (eC (.int 0))) (eC (.int 1))))) (sSeq (sSetI (eV 1) (eC (.int 0)) (e2 gAdd (e2 gIx (eV 1) (eC (.int 0))) (eC (.int 1)))) (sIf (tOf (e2 gNin (eV 2) (eLst (aC (eC (.str " ")) (aC (eC (.str ")")) (aN)))))) (sRet (eC .non)) (sPass)))))))) (sRet (eB gTuple (aC (eV 3) (aN))))))))))
noncomputable def m__law_tree_in : Nat → MF
  | 0 => fun _ _ => .bad
  | n + 1 => fnD 5 (b__law_tree_in (m__law_tree_in n))
noncomputable def b__law_due : MS := sSeq (sSet 1 (eNew (aC (eC (.int 0)) (aN)))) (sSeq (sSet 2 (eCall' 2 (m__law_tree_in 170) (aC (eV 0) (aC (eV 1) (aN))))) (sSeq (sIf (tO (tOf (e2 gIs (eV 2) (eC .non))) (tO (tOf (e2 gNe (e2 gIx (eV 1) (eC (.int 0))) (eB gLen (aC (eV 0) (aN))))) (tNo (tOf (eCall' 1 m__law_is_tree (aC (eV 2) (aN))))))) (sRet (eC .non)) (sPass)) (sRet (eV 2))))
noncomputable def m__law_due : MF := fnD 3 b__law_due
noncomputable def b_text_from : MS := sSeq (sSet 2 (eNew (aN))) (sSeq (sWh (tOf (e2 gNe (eSl2 (eV 0) (eV 1) (e2 gAdd (eV 1) (eC (.int 1)))) (eC (.str "\"")))) (sSeq (sIf (tOf (e2 gEq (eSl2 (eV 0) (eV 1) (e2 gAdd (eV 1) (eC (.int 1)))) (eC (.str "\\")))) (sAug 1 gIAdd (eC (.int 1))) (sPass)) (sSeq (sIf (tOf (e2 (gI iGe) (eV 1) (eB gLen (aC (eV 0) (aN))))) (sRaise "BadTree") (sPass)) (sSeq (sEx (eApp (eV 2) (e2 gIx (eV 0) (eV 1)))) (sAug 1 gIAdd (eC (.int 1))))))) (sRet (eTup (aC (eM1 gJoin (eC (.str "")) (eV 2)) (aC (e2 gAdd (eV 1) (eC (.int 1))) (aN))))))
noncomputable def m_text_from : MF := fnD 3 b_text_from
noncomputable def b_row_from (r_row_from r_tree_from : MF) : MS := sSeq (sSet 3 (eNew (aN))) (sSeq (sWh (tOf (e2 gNe (eSl2 (eV 0) (eV 1) (e2 gAdd (eV 1) (eC (.int 1)))) (eC (.str ")")))) (sSeq (sAsg (mTup 2 (mCons (mNm 4) (mCons (mNm 1) (mNil)))) (eCall' 3 r_tree_from (aC (eV 0) (aC (eV 1) (aC (eV 2) (aN)))))) (sSeq (sEx (eApp (eV 3) (eV 4))) (sIf (tOf (e2 gEq (eSl2 (eV 0) (eV 1) (e2 gAdd (eV 1) (eC (.int 1)))) (eC (.str " ")))) (sAug 1 gIAdd (eC (.int 1))) (sIf (tOf (e2 gNe (eSl2 (eV 0) (eV 1) (e2 gAdd (eV 1) (eC (.int 1)))) (eC (.str ")")))) (sRaise "BadTree") (sPass)))))) (sRet (eTup (aC (eB gTuple (aC (eV 3) (aN))) (aC (e2 gAdd (eV 1) (eC (.int 1))) (aN))))))
noncomputable def b_tree_from (r_row_from r_tree_from : MF) : MS := sSeq (sIf (tOf (e2 gEq (eV 2) (eC (.int 0)))) (sRaise "BadTree") (sPass)) (sSeq (sIf (tOf (e2 gEq (eSl2 (eV 0) (eV 1) (e2 gAdd (eV 1) (eC (.int 1)))) (eC (.str "\"")))) (sRet (eCall' 2 m_text_from (aC (eV 0) (aC (e2 gAdd (eV 1) (eC (.int 1))) (aN))))) (sPass)) (sSeq (sIf (tOf (e2 gEq (eSl2 (eV 0) (eV 1) (e2 gAdd (eV 1) (eC (.int 1)))) (eC (.str "(")))) (sRet (eCall' 3 r_row_from (aC (eV 0) (aC (e2 gAdd (eV 1) (eC (.int 1))) (aC (e2 gSub (eV 2) (eC (.int 1))) (aN)))))) (sPass)) (sRaise "BadTree")))
mutual
noncomputable def m_row_from : Nat → MF
  | 0 => fun _ _ => .bad
  | n + 1 => fnD 5 (b_row_from (m_row_from n) (m_tree_from n))
noncomputable def m_tree_from : Nat → MF
  | 0 => fun _ _ => .bad
  | n + 1 => fnD 3 (b_tree_from (m_row_from n) (m_tree_from n))
end
noncomputable def b_is_plain : MS := sRet (eAn (e1 (gIsi "str") (eV 0)) (eB (gLb allB) (aC (eLc (eV 0) (mNm 1) (tYs) (eO (e3 gLe gLe (eC (.str " ")) (eV 1) (eC (.str "$"))) (e3 gLe gLe (eC (.str "&")) (eV 1) (eC (.str "~")))) [1]) (aN))))
noncomputable def m_is_plain : MF := fnD 2 b_is_plain
noncomputable def b_room_left (r_room_left : MF) : MS := sSeq (sIf (tOf (e2 gEq (eV 1) (eC (.int 0)))) (sRet (eC .non)) (sPass)) (sSeq (sIf (tOf (e1 (gIsi "tuple") (eV 0))) (sSeq (sIf (tO (tOf (e2 (gI iGt) (eB gLen (aC (eV 0) (aN))) (eC (.int 40)))) (tOf (e2 gLt (eV 2) (eC (.int 1))))) (sRet (eC .non)) (sPass)) (sSeq (sAug 2 gSub (eC (.int 1))) (sSeq (sFor (eV 0) (mNm 3) (sSeq (sSet 2 (eCall' 3 r_room_left (aC (eV 3) (aC (e2 gSub (eV 1) (eC (.int 1))) (aC (eV 2) (aN)))))) (sIf (tOf (e2 gIs (eV 2) (eC .non))) (sRet (eC .non)) (sPass)))) (sRet (eV 2))))) (sPass)) (sSeq (sIf (tO (tNo (tOf (e1 (gIsi "str") (eV 0)))) (tO (tOf (e2 (gI iGt) (eB gLen (aC (eV 0) (aN))) (eC (.int 300)))) (tO (tOf (e2 (gI iGe) (eB gLen (aC (eV 0) (aN))) (eV 2))) (tNo (tOf (eCall' 1 m_is_plain (aC (eV 0) (aN)))))))) (sRet (eC .non)) (sPass)) (sRet (e2 gSub (e2 gSub (eV 2) (eB gLen (aC (eV 0) (aN)))) (eC (.int 1))))))
noncomputable def m_room_left : Nat → MF
  | 0 => fun _ _ => .bad
  | n + 1 => fnD 4 (b_room_left (m_room_left n))
noncomputable def b_is_tree : MS := sRet (e2 gIsn (eCall' 3 (m_room_left 170) (aC (eV 0) (aC (eC (.int 12)) (aC (eC (.int 600)) (aN))))) (eC .non))
noncomputable def m_is_tree : MF := fnD 1 b_is_tree
noncomputable def b_read_tree : MS := sSeq (sSet 1 (e2 gIx (eCall' 3 (m_tree_from 170) (aC (eV 0) (aC (eC (.int 0)) (aC (eC (.int 12)) (aN))))) (eC (.int 0)))) (sSeq (sIf (tO (tNo (tOf (eCall' 1 m_is_tree (aC (eV 1) (aN))))) (tOf (e2 gNe (eCall' 1 (m_tree_text 170) (aC (eV 1) (aN))) (eV 0)))) (sRaise "BadTree") (sPass)) (sRet (eV 1)))
noncomputable def m_read_tree : MF := fnD 2 b_read_tree
noncomputable def b__law_read : MS := sSeq (sSet 1 (eC .non)) (sSeq (sSet 2 (eC .non)) (sSeq (sTryAs (tbF [("BadTree", true)]) 3 (sSet 1 (eCall' 1 m_read_tree (aC (eV 0) (aN)))) (sSet 2 (eV 3))) (sSeq (sIf (tOf (e2 gIs (eV 2) (eC .non))) (sRet (eV 1)) (sPass)) (sSeq (sSet 4 (e1 (gIsx (tbF [("BadTree", false)])) (eV 2))) (sRet (e2 gMulL (eLst (aC (eC (.str "odd")) (aN))) (eB gInt (aC (eO (eV 4) (eO (eNo (e1 (gIsx (tbF [("BadTree", true)])) (eV 2))) (eNo (e1 (gIsx (tbF [("BadTree", true)])) (eV 2))))) (aN)))))))))
noncomputable def m__law_read : MF := fnD 5 b__law_read
noncomputable def b__law_written (r__law_written : MF) : MS := sSeq (sIf (tOf (e1 (gIsi "str") (eV 0))) (sSeq (sSet 1 (eC (.str ""))) (sSeq (sFor (eV 0) (mNm 2) (sSeq (sIf (tOf (e2 gIn (eV 2) (eLst (aC (eC (.str "\"")) (aC (eC (.str "\\")) (aN)))))) (sSet 1 (e2 gAdd (eV 1) (eC (.str "\\")))) (sPass)) (sSet 1 (e2 gAdd (eV 1) (eV 2))))) (sRet (e2 gAdd (e2 gAdd (eC (.str "\"")) (eV 1)) (eC (.str "\"")))))) (sPass)) (sRet (e2 gAdd (e2 gAdd (eC (.str "(")) (eM1 gJoin (eC (.str " ")) (eLc (eV 0) (mNm 3) (tYs) (eCall' 1 r__law_written (aC (eV 3) (aN))) [3]))) (eC (.str ")"))))
noncomputable def m__law_written : Nat → MF
  | 0 => fun _ _ => .bad
  | n + 1 => fnD 4 (b__law_written (m__law_written n))
noncomputable def b_law : MS := sSeq (sFor (e2 gAdd (eLst (aC (eB gLen (aC (eV 0) (aN))) (aN))) (eB gList (aC (eSlH (eV 0) (eC (.int 30))) (aN)))) (mNm 1) (sSeq (sSet 2 (eCall' 2 m__law_pot (aC (eV 1) (aC (eC (.int 3)) (aN))))) (sSeq (sSet 3 (eCall' 1 m__law_good_tree (aC (eV 2) (aN)))) (sSeq (sSet 4 (eCall' 1 (m_tree_text 170) (aC (eV 3) (aN)))) (sSeq (sIf (tO (tOf (e2 gNe (eV 4) (eCall' 1 (m__law_written 170) (aC (eV 3) (aN))))) (tO (tOf (e2 gNe (eCall' 1 m__law_read (aC (eV 4) (aN))) (eV 3))) (tOf (e1 (gIsi "list") (eCall' 1 m__law_read (aC (eV 4) (aN))))))) (sRet (eC (.bl false))) (sPass)) (sForR (eC (.int 3)) (mNm 5) (sSeq (sSet 6 (eCall' 2 m__law_changed (aC (eV 4) (aC (eV 2) (aN))))) (sSeq (sSet 7 (eCall' 1 m__law_due (aC (eV 6) (aN)))) (sSeq (sSet 8 (eCall' 1 m__law_read (aC (eV 6) (aN)))) (sIf (tO (tAn (tOf (e2 gIs (eV 7) (eC .non))) (tOf (e2 gNe (eV 8) (eLst (aN))))) (tAn (tOf (e2 gIsn (eV 7) (eC .non))) (tOf (e2 gNe (eV 8) (eV 7))))) (sRet (eC (.bl false))) (sPass))))))))))) (sSeq (sSet 9 (e2 gAdd (eC (.int 13)) (e2 gMod (eB gSum (aC (eV 0) (aN))) (eC (.int 3000))))) (sSeq (sFor (eLst (aC (eC (.str "")) (aC (e2 gAdd (e2 gMul (eC (.str "(")) (eC (.int 13))) (e2 gMul (eC (.str ")")) (eC (.int 13)))) (aC (e2 gMul (eC (.str "(")) (eV 9)) (aC (e2 gAdd (e2 gMul (eC (.str "(")) (eV 9)) (e2 gMul (eC (.str ")")) (eV 9))) (aC (e2 gAdd (e2 gAdd (e2 gMul (eC (.str "(")) (eV 9)) (eC (.str "\"a\""))) (e2 gMul (eC (.str ")")) (eV 9))) (aN))))))) (mNm 4) (sIf (tOf (e2 gNe (eCall' 1 m__law_read (aC (eV 4) (aN))) (eLst (aN)))) (sRet (eC (.bl false))) (sPass))) (sRet (eAn (e2 gNe (eCall' 1 m_read_tree (aC (e2 gAdd (e2 gMul (eC (.str "(")) (eC (.int 12))) (e2 gMul (eC (.str ")")) (eC (.int 12)))) (aN))) (eTup (aN))) (e2 gEq (eCall' 1 m_read_tree (aC (eC (.str "()")) (aN))) (eTup (aN)))))))
noncomputable def m_law : MF := fnK 10 b_law

end Law

namespace Law
open PySem PySem.Spec PyProof.Rows L2 DL
def topS (i : Nat) : Stmt := PySem.Challenge.pw_askwright_k03_trees_written_and_read.main.body.getD i (.Pass ⟨0, 0, 0, 0⟩)
abbrev s__law_pot : Stmt := topS 22
theorem sc__law_pot : FnScope ["cell", "salt"] ["cell", "salt"] (defScope s__law_pot) := ⟨rfl, rfl, rfl, by decide +kernel, rfl, by decide +kernel, by decide +kernel⟩
abbrev s__law_take : Stmt := topS 23
theorem sc__law_take : FnScope ["pot", "many", "digit"] ["pot", "many"] (defScope s__law_take) := ⟨rfl, rfl, rfl, by decide +kernel, rfl, by decide +kernel, by decide +kernel⟩
abbrev s__law_signs : Stmt := topS 24
theorem sc__law_signs : FnScope ["some"] [] (defScope s__law_signs) := ⟨rfl, rfl, rfl, by decide +kernel, rfl, by decide +kernel, by decide +kernel⟩
abbrev s__law_text : Stmt := topS 25
theorem sc__law_text : FnScope ["pot", "signs", "text", "k"] ["pot"] (defScope s__law_text) := ⟨rfl, rfl, rfl, by decide +kernel, rfl, by decide +kernel, by decide +kernel⟩
abbrev s__law_tree : Stmt := topS 26
theorem sc__law_tree : FnScope ["pot", "deep", "kind", "tree", "k"] ["pot", "deep"] (defScope s__law_tree) := ⟨rfl, rfl, rfl, by decide +kernel, rfl, by decide +kernel, by decide +kernel⟩
abbrev s__law_measure : Stmt := topS 27
theorem sc__law_measure : FnScope ["value", "signs", "parts", "good", "sign", "part"] ["value"] (defScope s__law_measure) := ⟨rfl, rfl, rfl, by decide +kernel, rfl, by decide +kernel, by decide +kernel⟩
abbrev s__law_is_tree : Stmt := topS 28
theorem sc__law_is_tree : FnScope ["value", "good", "size", "deep"] ["value"] (defScope s__law_is_tree) := ⟨rfl, rfl, rfl, by decide +kernel, rfl, by decide +kernel, by decide +kernel⟩
abbrev s__law_good_tree : Stmt := topS 29
theorem sc__law_good_tree : FnScope ["pot", "tree"] ["pot"] (defScope s__law_good_tree) := ⟨rfl, rfl, rfl, by decide +kernel, rfl, by decide +kernel, by decide +kernel⟩
abbrev s_tree_text : Stmt := topS 16
theorem sc_tree_text : FnScope ["tree", "part"] ["tree"] (defScope s_tree_text) := ⟨rfl, rfl, rfl, by decide +kernel, rfl, by decide +kernel, by decide +kernel⟩
abbrev s__law_changed : Stmt := topS 34
theorem sc__law_changed : FnScope ["text", "pot", "k", "at", "way", "sign"] ["text", "pot"] (defScope s__law_changed) := ⟨rfl, rfl, rfl, by decide +kernel, rfl, by decide +kernel, by decide +kernel⟩
abbrev s__law_text_in : Stmt := topS 31
theorem sc__law_text_in : FnScope ["text", "spot", "found", "sign"] ["text", "spot"] (defScope s__law_text_in) := ⟨rfl, rfl, rfl, by decide +kernel, rfl, by decide +kernel, by decide +kernel⟩
abbrev s__law_tree_in : Stmt := topS 32
theorem sc__law_tree_in : FnScope ["text", "spot", "sign", "parts", "part"] ["text", "spot"] (defScope s__law_tree_in) := ⟨rfl, rfl, rfl, by decide +kernel, rfl, by decide +kernel, by decide +kernel⟩
abbrev s__law_due : Stmt := topS 33
theorem sc__law_due : FnScope ["text", "spot", "tree"] ["text"] (defScope s__law_due) := ⟨rfl, rfl, rfl, by decide +kernel, rfl, by decide +kernel, by decide +kernel⟩
abbrev s_text_from : Stmt := topS 17
theorem sc_text_from : FnScope ["text", "at", "signs"] ["text", "at"] (defScope s_text_from) := ⟨rfl, rfl, rfl, by decide +kernel, rfl, by decide +kernel, by decide +kernel⟩
abbrev s_row_from : Stmt := topS 18
theorem sc_row_from : FnScope ["text", "at", "deep", "parts", "part"] ["text", "at", "deep"] (defScope s_row_from) := ⟨rfl, rfl, rfl, by decide +kernel, rfl, by decide +kernel, by decide +kernel⟩
abbrev s_tree_from : Stmt := topS 19
theorem sc_tree_from : FnScope ["text", "at", "deep"] ["text", "at", "deep"] (defScope s_tree_from) := ⟨rfl, rfl, rfl, by decide +kernel, rfl, by decide +kernel, by decide +kernel⟩
abbrev s_is_plain : Stmt := topS 13
theorem sc_is_plain : FnScope ["value", "sign"] ["value"] (defScope s_is_plain) := ⟨rfl, rfl, rfl, by decide +kernel, rfl, by decide +kernel, by decide +kernel⟩
abbrev s_room_left : Stmt := topS 14
theorem sc_room_left : FnScope ["value", "deep", "room", "part"] ["value", "deep", "room"] (defScope s_room_left) := ⟨rfl, rfl, rfl, by decide +kernel, rfl, by decide +kernel, by decide +kernel⟩
abbrev s_is_tree : Stmt := topS 15
theorem sc_is_tree : FnScope ["value"] ["value"] (defScope s_is_tree) := ⟨rfl, rfl, rfl, by decide +kernel, rfl, by decide +kernel, by decide +kernel⟩
abbrev s_read_tree : Stmt := topS 20
theorem sc_read_tree : FnScope ["text", "tree"] ["text"] (defScope s_read_tree) := ⟨rfl, rfl, rfl, by decide +kernel, rfl, by decide +kernel, by decide +kernel⟩
abbrev s__law_read : Stmt := topS 35
theorem sc__law_read : FnScope ["text", "found", "error", "e", "others"] ["text"] (defScope s__law_read) := ⟨rfl, rfl, rfl, by decide +kernel, rfl, by decide +kernel, by decide +kernel⟩
abbrev s__law_written : Stmt := topS 30
theorem sc__law_written : FnScope ["tree", "text", "sign", "part"] ["tree"] (defScope s__law_written) := ⟨rfl, rfl, rfl, by decide +kernel, rfl, by decide +kernel, by decide +kernel⟩
abbrev s_law : Stmt := topS 36
theorem sc_law : FnScope ["script", "cell", "pot", "tree", "text", "turn", "other", "due", "found", "deep"] ["script"] (defScope s_law) := ⟨rfl, rfl, rfl, by decide +kernel, rfl, by decide +kernel, by decide +kernel⟩
/-- what the top has written -/
structure Txt (w : World) (K : PySem.W.Frag) (mg : Str → Option Value) : Prop where
  n_ValueError : mg "ValueError" = none
  n_abs : mg "abs" = none
  n_all : mg "all" = none
  n_int : mg "int" = none
  n_isinstance : mg "isinstance" = none
  n_len : mg "len" = none
  n_list : mg "list" = none
  n_max : mg "max" = none
  n_range : mg "range" = none
  n_str : mg "str" = none
  n_sum : mg "sum" = none
  n_tuple : mg "tuple" = none
  g_MOST_DEEP : ∃ t, mg "MOST_DEEP" = some (.int 12 t)
  g_MOST_PARTS : ∃ t, mg "MOST_PARTS" = some (.int 40 t)
  g_MOST_SIGNS : ∃ t, mg "MOST_SIGNS" = some (.int 300 t)
  g_MOST_SIZE : ∃ t, mg "MOST_SIZE" = some (.int 600 t)
/-- its classes of errors -/
structure Exs (K : PySem.W.Frag) (mg : Str → Option Value) (cA : Str → Addr) : Prop where
  b_BadTree : PySem.W.subIn K (.ref (cA "BadTree")) (.type "BaseException") = some true
  g_BadKeep : mg "BadKeep" = some (.ref (cA "BadKeep"))
  g_BadName : mg "BadName" = some (.ref (cA "BadName"))
  g_BadRule : mg "BadRule" = some (.ref (cA "BadRule"))
  g_BadText : mg "BadText" = some (.ref (cA "BadText"))
  g_BadThing : mg "BadThing" = some (.ref (cA "BadThing"))
  g_BadTree : mg "BadTree" = some (.ref (cA "BadTree"))
  g_WrightError : mg "WrightError" = some (.ref (cA "WrightError"))
  i_BadTree : ExcC K (cA "BadTree")
  k_BadTree : PySem.W.keepIn K (.ref (cA "BadTree")) = true
  m_BadTree_WrightError : PySem.W.exmOne K (.ref (cA "BadTree")) (.ref (cA "WrightError")) = some true
  n_BadKeep : PySem.W.kitOne K (.type "NoneType") (.ref (cA "BadKeep")) = some false
  n_BadName : PySem.W.kitOne K (.type "NoneType") (.ref (cA "BadName")) = some false
  n_BadRule : PySem.W.kitOne K (.type "NoneType") (.ref (cA "BadRule")) = some false
  n_BadText : PySem.W.kitOne K (.type "NoneType") (.ref (cA "BadText")) = some false
  n_BadThing : PySem.W.kitOne K (.type "NoneType") (.ref (cA "BadThing")) = some false
  n_BadTree : PySem.W.kitOne K (.type "NoneType") (.ref (cA "BadTree")) = some false
  n_ValueError : PySem.W.kitOne K (.type "NoneType") (.type "ValueError") = some false
  q_BadTree_BadKeep : PySem.W.kitOne K (.ref (cA "BadTree")) (.ref (cA "BadKeep")) = some false
  q_BadTree_BadName : PySem.W.kitOne K (.ref (cA "BadTree")) (.ref (cA "BadName")) = some false
  q_BadTree_BadRule : PySem.W.kitOne K (.ref (cA "BadTree")) (.ref (cA "BadRule")) = some false
  q_BadTree_BadText : PySem.W.kitOne K (.ref (cA "BadTree")) (.ref (cA "BadText")) = some false
  q_BadTree_BadThing : PySem.W.kitOne K (.ref (cA "BadTree")) (.ref (cA "BadThing")) = some false
  q_BadTree_BadTree : PySem.W.kitOne K (.ref (cA "BadTree")) (.ref (cA "BadTree")) = some true
  q_BadTree_ValueError : PySem.W.kitOne K (.ref (cA "BadTree")) (.type "ValueError") = some true
  t_BadTree : PySem.W.typeIn K (.ref (cA "BadTree")) = some (.type "type")
  x_BadTree : PySem.W.excIn K (cA "BadTree") [.type "ValueError", .type "Exception", .type "BaseException", .type "object"] "ValueError.__new__" = true
section
variable {P : Program} {w : World} {K : PySem.W.Frag} {mg : Str → Option Value} {base : Heap} {cA : Str → Addr}
theorem ok__law_pot {f : Addr} {fd : FuncData} (T : Txt w K mg) (C : Exs K mg cA)  (F : Fun K "_law_pot" "_law_pot" s__law_pot f fd) (mgf : mg "_law_pot" = some (.ref f)) (kp : PySem.W.keepIn K (.ref f) = true) (bd : Binds K fd ["cell", "salt"] []) : FD P w K mg base cA 1 "_law_pot" 2 m__law_pot :=
  (fd_mk (body := b__law_pot) (N := ["cell", "salt"]) (ps := ["cell", "salt"]) (k := 0) F mgf kp bd sc__law_pot (fun cdv A outer s H E hr =>
    (z_cons (s_if (k_cmp o_geI (q_callB c_abs (by rfl) T.n_abs (by decide +kernel) (a_cons (q_v (pv 0)) (a_nil))) (q_op o_pow (q_int) (q_int))) (z_one (s_ret (q_new (a_cons (q_callB c_abs (by rfl) T.n_abs (by decide +kernel) (a_cons (q_v (pv 0)) (a_nil))) (a_cons (q_v (pv 1)) (a_nil)))))) (z_nil))
    (z_one (s_ret (q_new (a_cons (q_int) (a_cons (q_op o_mod (q_op o_mul (q_op o_add (q_op o_add (q_op o_mod (q_v (pv 0)) (q_int)) (q_op o_mul (q_int) (q_v (pv 1)))) (q_int)) (q_int)) (q_int)) (a_nil)))))))))
theorem ok__law_take {f : Addr} {fd : FuncData} (T : Txt w K mg) (C : Exs K mg cA)  (F : Fun K "_law_take" "_law_take" s__law_take f fd) (mgf : mg "_law_take" = some (.ref f)) (kp : PySem.W.keepIn K (.ref f) = true) (bd : Binds K fd ["pot", "many"] []) : FD P w K mg base cA 1 "_law_take" 2 m__law_take :=
  FD.drop (N := 3) (body := b__law_take) (fd_mk (body := b__law_take) (N := ["pot", "many", "digit"]) (ps := ["pot", "many"]) (k := 0) F mgf kp bd sc__law_take (fun cdv A outer s H E hr =>
    (z_cons (s_if (k_cmp o_gtI (q_ix (q_v (pv 0)) (q_int)) (q_int)) (z_cons (s_set (ps_set (i := 2) sc__law_take.nd rfl (.inl rfl) (q_op o_mod (q_ix (q_v (pv 0)) (q_int)) (q_v (pv 1)))))
    (z_cons (s_setI (fun hv ho hi => ps_asg hv (pg_sub ho hi set_list)) (q_op o_fdiv (q_ix (q_v (pv 0)) (q_int)) (q_v (pv 1))) (q_v (pv 0)) (q_int))
    (z_one (s_ret (q_v (pv 2)))))) (z_nil))
    (z_cons (s_setI (fun hv ho hi => ps_asg hv (pg_sub ho hi set_list)) (q_op o_mod (q_op o_add (q_op o_mul (q_ix (q_v (pv 0)) (q_int)) (q_ix (q_v (pv 0)) (q_int))) (q_int)) (q_int)) (q_v (pv 0)) (q_int))
    (z_one (s_ret (q_op o_mod (q_op o_fdiv (q_op o_mod (q_op o_mul (q_ix (q_v (pv 0)) (q_int)) (q_int)) (q_int)) (q_int)) (q_v (pv 1)))))))))
theorem ok__law_signs {f : Addr} {fd : FuncData} (T : Txt w K mg) (C : Exs K mg cA)  (F : Fun K "_law_signs" "_law_signs" s__law_signs f fd) (mgf : mg "_law_signs" = some (.ref f)) (kp : PySem.W.keepIn K (.ref f) = true) (bd : Binds K fd [] []) : FD P w K mg base cA 1 "_law_signs" 0 m__law_signs :=
  FD.drop (N := 1) (body := b__law_signs) (fd_mk (body := b__law_signs) (N := ["some"]) (ps := []) (k := 0) F mgf kp bd sc__law_signs (fun cdv A outer s H E hr =>
    (z_cons (s_set (ps_set (i := 0) sc__law_signs.nd rfl (.inl rfl) (q_str)))
    (z_one (s_ret (q_op o_add (q_op o_add (q_op o_add (q_op o_add (q_v (pv 0)) (q_str)) (q_str)) (q_str)) (q_str)))))))
theorem ok__law_text {f : Addr} {fd : FuncData} (T : Txt w K mg) (C : Exs K mg cA) (F__law_signs : FD P w K mg base cA 1 "_law_signs" 0 m__law_signs) (F__law_take : FD P w K mg base cA 1 "_law_take" 2 m__law_take) (F : Fun K "_law_text" "_law_text" s__law_text f fd) (mgf : mg "_law_text" = some (.ref f)) (kp : PySem.W.keepIn K (.ref f) = true) (bd : Binds K fd ["pot"] []) : FD P w K mg base cA 2 "_law_text" 1 m__law_text :=
  FD.drop (N := 4) (body := b__law_text) (fd_mk (body := b__law_text) (N := ["pot", "signs", "text", "k"]) (ps := ["pot"]) (k := 1) F mgf kp bd sc__law_text (fun cdv A outer s H E hr =>
    (z_cons (s_set (ps_set (i := 1) sc__law_text.nd rfl (.inl rfl) (q_call0 (takes_of rfl rfl rfl rfl) F__law_signs hr (by decide) (by rfl))))
    (z_cons (s_set (ps_set (i := 2) sc__law_text.nd rfl (.inl rfl) (q_str)))
    (z_cons (s_forR (passes_of rfl) rfl (by rfl) T.n_range (a_cons (q_call (takes_of rfl rfl rfl rfl) F__law_take hr (by decide) (by rfl) (a_cons (q_v (pv 0)) (a_cons (q_int) (a_nil)))) a_nil) (pg_name (i := 3) sc__law_text.nd rfl (.inl rfl)) (g_nm) (z_one (s_set (ps_set (i := 2) sc__law_text.nd rfl (.inl rfl) (q_op o_add (q_v (pv 2)) (q_ix (q_v (pv 1)) (q_call (takes_of rfl rfl rfl rfl) F__law_take hr (by decide) (by rfl) (a_cons (q_v (pv 0)) (a_cons (q_callB c_len (by rfl) T.n_len (by decide +kernel) (a_cons (q_v (pv 1)) (a_nil))) (a_nil))))))))))
    (z_cons (s_if (k_cmp (o_eq hr.units) (q_call (takes_of rfl rfl rfl rfl) F__law_take hr (by decide) (by rfl) (a_cons (q_v (pv 0)) (a_cons (q_int) (a_nil)))) (q_int)) (z_one (s_set (ps_set (i := 2) sc__law_text.nd rfl (.inl rfl) (q_op o_add (q_v (pv 2)) (q_op o_mul (q_str) (q_op o_sub (q_op o_add (q_int) (q_call (takes_of rfl rfl rfl rfl) F__law_take hr (by decide) (by rfl) (a_cons (q_v (pv 0)) (a_cons (q_int) (a_nil))))) (q_callB c_len (by rfl) T.n_len (by decide +kernel) (a_cons (q_v (pv 2)) (a_nil))))))))) (z_nil))
    (z_one (s_ret (q_v (pv 2))))))))))
theorem ok__law_tree {f : Addr} {fd : FuncData} (T : Txt w K mg) (C : Exs K mg cA) (F__law_take : FD P w K mg base cA 1 "_law_take" 2 m__law_take) (F__law_text : FD P w K mg base cA 2 "_law_text" 1 m__law_text) (n : Nat) (R__law_tree : FD P w K mg base cA (3 + n) "_law_tree" 2 (m__law_tree n)) (F : Fun K "_law_tree" "_law_tree" s__law_tree f fd) (mgf : mg "_law_tree" = some (.ref f)) (kp : PySem.W.keepIn K (.ref f) = true) (bd : Binds K fd ["pot", "deep"] []) : FD P w K mg base cA (3 + (n + 1)) "_law_tree" 2 (m__law_tree (n + 1)) :=
  FD.drop (N := 5) (body := b__law_tree (m__law_tree n)) (fd_mk (body := b__law_tree (m__law_tree n)) (N := ["pot", "deep", "kind", "tree", "k"]) (ps := ["pot", "deep"]) (k := 3 + n) F mgf kp bd sc__law_tree (fun cdv A outer s H E hr =>
    (z_cons (s_set (ps_set (i := 2) sc__law_tree.nd rfl (.inl rfl) (q_call (takes_of rfl rfl rfl rfl) F__law_take hr (by omega) (by rfl) (a_cons (q_v (pv 0)) (a_cons (q_int) (a_nil))))))
    (z_cons (s_if ((w_or (k_cmp (o_eq hr.units) (q_v (pv 1)) (q_int)) (w_or1 (k_cmp o_lt (q_v (pv 2)) (q_int)))).pt) (z_one (s_ret (q_call (takes_of rfl rfl rfl rfl) F__law_text hr (by omega) (by rfl) (a_cons (q_v (pv 0)) (a_nil))))) (z_nil))
    (z_cons (s_if (k_cmp (o_eq hr.units) (q_v (pv 2)) (q_int)) (z_cons (s_set (ps_set (i := 3) sc__law_tree.nd rfl (.inl rfl) (q_call (takes_of rfl rfl rfl rfl) R__law_tree hr (Nat.le_refl _) (by rfl) (a_cons (q_v (pv 0)) (a_cons (q_op o_sub (q_v (pv 1)) (q_int)) (a_nil))))))
    (z_cons (s_forR (passes_of rfl) rfl (by rfl) T.n_range (a_cons (q_call (takes_of rfl rfl rfl rfl) F__law_take hr (by omega) (by rfl) (a_cons (q_v (pv 0)) (a_cons (q_int) (a_nil)))) a_nil) (pg_name (i := 4) sc__law_tree.nd rfl (.inl rfl)) (g_nm) (z_one (s_set (ps_set (i := 3) sc__law_tree.nd rfl (.inl rfl) (q_tup (a_cons (q_v (pv 3)) (a_nil)))))))
    (z_one (s_ret (q_v (pv 3)))))) (z_nil))
    (z_one (s_ret (q_callT c_tuple (by rfl) T.n_tuple (by decide +kernel) (a_cons (q_lcG w_rng1 (own := [("k", 4)]) (g := gName 4) (g_nm) (by decide) rfl sc__law_tree.nd (i_rng1 (by rfl) T.n_range (q_call (takes_of rfl rfl rfl rfl) F__law_take hr (by omega) (by rfl) (a_cons (q_v (pv 0)) (a_cons (q_int) (a_nil))))) (blkOk_by (N := ["pot", "deep", "kind", "tree", "k"]) (sc := defScope s__law_tree) (by decide +kernel)) (fun _ _ _ _ _ => pg_name (i := 4) sc__law_tree.nd rfl (.inl rfl)) (fun _ _ _ _ _ => x_nil) (fun _ _ _ _ _ => q_call takes0 R__law_tree hr (Nat.le_refl _) (by rfl) (a_cons (q_v (pv 0)) (a_cons (q_op o_sub (q_v (pv 1)) (q_int)) (a_nil))))) (a_nil))))))))))
theorem ok__law_measure {f : Addr} {fd : FuncData} (T : Txt w K mg) (C : Exs K mg cA) (F__law_signs : FD P w K mg base cA 1 "_law_signs" 0 m__law_signs) (n : Nat) (R__law_measure : FD P w K mg base cA (2 + n) "_law_measure" 1 (m__law_measure n)) (F : Fun K "_law_measure" "_law_measure" s__law_measure f fd) (mgf : mg "_law_measure" = some (.ref f)) (kp : PySem.W.keepIn K (.ref f) = true) (bd : Binds K fd ["value"] []) : FD P w K mg base cA (2 + (n + 1)) "_law_measure" 1 (m__law_measure (n + 1)) :=
  FD.drop (N := 6) (body := b__law_measure (m__law_measure n)) (fd_mk (body := b__law_measure (m__law_measure n)) (N := ["value", "signs", "parts", "good", "sign", "part"]) (ps := ["value"]) (k := 2 + n) F mgf kp bd sc__law_measure (fun cdv A outer s H E hr =>
    (z_cons (s_if (k_val (q_isi (n := "str") (by rfl) T.n_isinstance (q_v (pv 0)) (q_ty (by rfl) T.n_str (by decide +kernel)))) (z_cons (s_set (ps_set (i := 1) sc__law_measure.nd rfl (.inr rfl) (q_call0 (takes_of rfl rfl rfl rfl) F__law_signs hr (by omega) (by rfl))))
    (z_one (s_ret (q_tup (a_cons (q_and (q_cmp o_le (q_callB c_len (by rfl) T.n_len (by decide +kernel) (a_cons (q_v (pv 0)) (a_nil))) (q_int)) (q_one (q_callB (c_all rfl) (by rfl) T.n_all (by decide +kernel) (a_cons (q_lc (own := [("sign", 4)]) (g := gName 4) (g_nm) (by decide) rfl sc__law_measure.nd (q_v (pv 0)) (blkOk_by (N := ["value", "signs", "parts", "good", "sign", "part"]) (sc := defScope s__law_measure) (by decide +kernel)) (fun _ _ _ _ _ => pg_name (i := 4) sc__law_measure.nd rfl (.inl rfl)) (fun _ _ _ _ _ => x_nil) (fun _ _ _ _ _ => q_cmp o_in (q_v (pv 4)) (q_v (pv 1)))) (a_nil))))) (a_cons (q_op o_add (q_callB c_len (by rfl) T.n_len (by decide +kernel) (a_cons (q_v (pv 0)) (a_nil))) (q_int)) (a_cons (q_int) (a_nil)))))))) (z_nil))
    (z_cons (s_if (k_not (k_val (q_isi (n := "tuple") (by rfl) T.n_isinstance (q_v (pv 0)) (q_ty (by rfl) T.n_tuple (by decide +kernel))))) (z_one (s_ret (q_tup (a_cons (q_bl) (a_cons (q_int) (a_cons (q_int) (a_nil))))))) (z_nil))
    (z_cons (s_setLc (i := 2) (own := [("part", 5)]) (g := gName 5) (g_nm) (by decide) rfl sc__law_measure.nd rfl rfl (sw_true rfl rfl rfl (by decide +kernel)) (q_v (pv 0)) (blkOk_by (N := ["value", "signs", "parts", "good", "sign", "part"]) (sc := defScope s__law_measure) (by decide +kernel)) (fun _ _ _ _ _ => pg_name (i := 5) sc__law_measure.nd rfl (.inl rfl)) (fun _ _ _ _ _ => x_nil) (fun _ _ _ _ _ => q_call takes0 R__law_measure hr (Nat.le_refl _) (by rfl) (a_cons (q_v (pv 5)) (a_nil))))
    (z_cons (s_set (ps_set (i := 3) sc__law_measure.nd rfl (.inl rfl) (q_and (q_cmp o_le (q_callB c_len (by rfl) T.n_len (by decide +kernel) (a_cons (q_v (pv 0)) (a_nil))) (q_int)) (q_one (q_callB (c_all rfl) (by rfl) T.n_all (by decide +kernel) (a_cons (q_lc (own := [("part", 5)]) (g := gName 5) (g_nm) (by decide) rfl sc__law_measure.nd (q_v (pv 2)) (blkOk_by (N := ["value", "signs", "parts", "good", "sign", "part"]) (sc := defScope s__law_measure) (by decide +kernel)) (fun _ _ _ _ _ => pg_name (i := 5) sc__law_measure.nd rfl (.inl rfl)) (fun _ _ _ _ _ => x_nil) (fun _ _ _ _ _ => q_ix (q_v (pv 5)) (q_int))) (a_nil)))))))
    (z_one (s_ret (q_tup (a_cons (q_v (pv 3)) (a_cons (q_op o_add (q_int) (q_callB (c_sum rfl) (by rfl) T.n_sum (by decide +kernel) (a_cons (q_lc (own := [("part", 5)]) (g := gName 5) (g_nm) (by decide) rfl sc__law_measure.nd (q_v (pv 2)) (blkOk_by (N := ["value", "signs", "parts", "good", "sign", "part"]) (sc := defScope s__law_measure) (by decide +kernel)) (fun _ _ _ _ _ => pg_name (i := 5) sc__law_measure.nd rfl (.inl rfl)) (fun _ _ _ _ _ => x_nil) (fun _ _ _ _ _ => q_ix (q_v (pv 5)) (q_int))) (a_nil)))) (a_cons (q_op o_add (q_int) (q_maxD rfl (by rfl) T.n_max (q_lc (own := [("part", 5)]) (g := gName 5) (g_nm) (by decide) rfl sc__law_measure.nd (q_v (pv 2)) (blkOk_by (N := ["value", "signs", "parts", "good", "sign", "part"]) (sc := defScope s__law_measure) (by decide +kernel)) (fun _ _ _ _ _ => pg_name (i := 5) sc__law_measure.nd rfl (.inl rfl)) (fun _ _ _ _ _ => x_nil) (fun _ _ _ _ _ => q_ix (q_v (pv 5)) (q_int))) (q_int))) (a_nil)))))))))))))
theorem ok__law_is_tree {f : Addr} {fd : FuncData} (T : Txt w K mg) (C : Exs K mg cA) (F__law_measure : FD P w K mg base cA 172 "_law_measure" 1 (m__law_measure 170)) (F : Fun K "_law_is_tree" "_law_is_tree" s__law_is_tree f fd) (mgf : mg "_law_is_tree" = some (.ref f)) (kp : PySem.W.keepIn K (.ref f) = true) (bd : Binds K fd ["value"] []) : FD P w K mg base cA 173 "_law_is_tree" 1 m__law_is_tree :=
  FD.drop (N := 4) (body := b__law_is_tree) (fd_mk (body := b__law_is_tree) (N := ["value", "good", "size", "deep"]) (ps := ["value"]) (k := 172) F mgf kp bd sc__law_is_tree (fun cdv A outer s H E hr =>
    (z_cons (s_asg (g_tup (g_cons (g_nm) (g_cons (g_nm) (g_cons (g_nm) (g_nil))))) (ps_asg (q_call (takes_of rfl rfl rfl rfl) F__law_measure hr (by decide) (by rfl) (a_cons (q_v (pv 0)) (a_nil))) (pgTL rfl (pgs_cons (pg_name (i := 1) sc__law_is_tree.nd rfl (.inl rfl)) (pgs_cons (pg_name (i := 2) sc__law_is_tree.nd rfl (.inl rfl)) (pgs_cons (pg_name (i := 3) sc__law_is_tree.nd rfl (.inl rfl)) (pgs_nil)))))))
    (z_one (s_ret (q_and (q_v (pv 1)) (q_and (q_cmp o_le (q_v (pv 2)) (q_int)) (q_one (q_cmp o_le (q_v (pv 3)) (q_int))))))))))
theorem ok__law_good_tree {f : Addr} {fd : FuncData} (T : Txt w K mg) (C : Exs K mg cA) (F__law_tree : FD P w K mg base cA 173 "_law_tree" 2 (m__law_tree 170)) (F__law_is_tree : FD P w K mg base cA 173 "_law_is_tree" 1 m__law_is_tree) (F__law_take : FD P w K mg base cA 1 "_law_take" 2 m__law_take) (F : Fun K "_law_good_tree" "_law_good_tree" s__law_good_tree f fd) (mgf : mg "_law_good_tree" = some (.ref f)) (kp : PySem.W.keepIn K (.ref f) = true) (bd : Binds K fd ["pot"] []) : FD P w K mg base cA 174 "_law_good_tree" 1 m__law_good_tree :=
  FD.drop (N := 2) (body := b__law_good_tree) (fd_mk (body := b__law_good_tree) (N := ["pot", "tree"]) (ps := ["pot"]) (k := 173) F mgf kp bd sc__law_good_tree (fun cdv A outer s H E hr =>
    (z_cons (s_set (ps_set (i := 1) sc__law_good_tree.nd rfl (.inl rfl) (q_call (takes_of rfl rfl rfl rfl) F__law_tree hr (by decide) (by rfl) (a_cons (q_v (pv 0)) (a_cons (q_int) (a_nil))))))
    (z_cons (s_wh (passes_of rfl) (k_not (k_val (q_call (takes_of rfl rfl rfl rfl) F__law_is_tree hr (by decide) (by rfl) (a_cons (q_v (pv 1)) (a_nil))))) (z_one (s_set (ps_set (i := 1) sc__law_good_tree.nd rfl (.inl rfl) (q_ix (q_v (pv 1)) (q_call (takes_of rfl rfl rfl rfl) F__law_take hr (by decide) (by rfl) (a_cons (q_v (pv 0)) (a_cons (q_callB c_len (by rfl) T.n_len (by decide +kernel) (a_cons (q_v (pv 1)) (a_nil))) (a_nil)))))))))
    (z_one (s_ret (q_v (pv 1))))))))
theorem ok_tree_text {f : Addr} {fd : FuncData} (T : Txt w K mg) (C : Exs K mg cA)  (n : Nat) (R_tree_text : FD P w K mg base cA (1 + n) "tree_text" 1 (m_tree_text n)) (F : Fun K "tree_text" "tree_text" s_tree_text f fd) (mgf : mg "tree_text" = some (.ref f)) (kp : PySem.W.keepIn K (.ref f) = true) (bd : Binds K fd ["tree"] []) : FD P w K mg base cA (1 + (n + 1)) "tree_text" 1 (m_tree_text (n + 1)) :=
  FD.drop (N := 2) (body := b_tree_text (m_tree_text n)) (fd_mk (body := b_tree_text (m_tree_text n)) (N := ["tree", "part"]) (ps := ["tree"]) (k := 1 + n) F mgf kp bd sc_tree_text (fun cdv A outer s H E hr =>
    (z_cons (s_if (k_val (q_isi (n := "str") (by rfl) T.n_isinstance (q_v (pv 0)) (q_ty (by rfl) T.n_str (by decide +kernel)))) (z_one (s_ret (q_op o_add (q_opC o_add (qt_rep (qt_rep (qt_of (q_v (pv 0)))))) (q_str)))) (z_nil))
    (z_one (s_ret (q_op o_add (q_op o_add (q_str) (q_join (q_str) (q_lc (own := [("part", 1)]) (g := gName 1) (g_nm) (by decide) rfl sc_tree_text.nd (q_v (pv 0)) (blkOk_by (N := ["tree", "part"]) (sc := defScope s_tree_text) (by decide +kernel)) (fun _ _ _ _ _ => pg_name (i := 1) sc_tree_text.nd rfl (.inl rfl)) (fun _ _ _ _ _ => x_nil) (fun _ _ _ _ _ => q_call takes0 R_tree_text hr (Nat.le_refl _) (by rfl) (a_cons (q_v (pv 1)) (a_nil)))))) (q_str)))))))
theorem ok__law_changed {f : Addr} {fd : FuncData} (T : Txt w K mg) (C : Exs K mg cA) (F__law_take : FD P w K mg base cA 1 "_law_take" 2 m__law_take) (F : Fun K "_law_changed" "_law_changed" s__law_changed f fd) (mgf : mg "_law_changed" = some (.ref f)) (kp : PySem.W.keepIn K (.ref f) = true) (bd : Binds K fd ["text", "pot"] []) : FD P w K mg base cA 2 "_law_changed" 2 m__law_changed :=
  FD.drop (N := 6) (body := b__law_changed) (fd_mk (body := b__law_changed) (N := ["text", "pot", "k", "at", "way", "sign"]) (ps := ["text", "pot"]) (k := 1) F mgf kp bd sc__law_changed (fun cdv A outer s H E hr =>
    (z_cons (s_forR (passes_of rfl) rfl (by rfl) T.n_range (a_cons (q_op o_add (q_int) (q_call (takes_of rfl rfl rfl rfl) F__law_take hr (by decide) (by rfl) (a_cons (q_v (pv 1)) (a_cons (q_int) (a_nil))))) a_nil) (pg_name (i := 2) sc__law_changed.nd rfl (.inl rfl)) (g_nm) (z_cons (s_set (ps_set (i := 3) sc__law_changed.nd rfl (.inl rfl) (q_call (takes_of rfl rfl rfl rfl) F__law_take hr (by decide) (by rfl) (a_cons (q_v (pv 1)) (a_cons (q_op o_add (q_callB c_len (by rfl) T.n_len (by decide +kernel) (a_cons (q_v (pv 0)) (a_nil))) (q_int)) (a_nil))))))
    (z_cons (s_set (ps_set (i := 4) sc__law_changed.nd rfl (.inl rfl) (q_call (takes_of rfl rfl rfl rfl) F__law_take hr (by decide) (by rfl) (a_cons (q_v (pv 1)) (a_cons (q_int) (a_nil))))))
    (z_cons (s_set (ps_set (i := 5) sc__law_changed.nd rfl (.inl rfl) (q_ix (q_str) (q_call (takes_of rfl rfl rfl rfl) F__law_take hr (by decide) (by rfl) (a_cons (q_v (pv 1)) (a_cons (q_int) (a_nil)))))))
    (z_one (s_if (k_cmp (o_eq hr.units) (q_v (pv 4)) (q_int)) (z_one (s_set (ps_set (i := 0) sc__law_changed.nd rfl (.inl rfl) (q_op o_add (q_slH (q_v (pv 0)) (q_v (pv 3))) (q_slL (q_v (pv 0)) (q_op o_add (q_v (pv 3)) (q_int))))))) (z_one (s_if (k_cmp (o_eq hr.units) (q_v (pv 4)) (q_int)) (z_one (s_set (ps_set (i := 0) sc__law_changed.nd rfl (.inl rfl) (q_op o_add (q_op o_add (q_slH (q_v (pv 0)) (q_v (pv 3))) (q_v (pv 5))) (q_slL (q_v (pv 0)) (q_v (pv 3))))))) (z_one (s_if (k_cmp (o_eq hr.units) (q_v (pv 4)) (q_int)) (z_one (s_set (ps_set (i := 0) sc__law_changed.nd rfl (.inl rfl) (q_op o_add (q_op o_add (q_slH (q_v (pv 0)) (q_v (pv 3))) (q_v (pv 5))) (q_slL (q_v (pv 0)) (q_op o_add (q_v (pv 3)) (q_int))))))) (z_one (s_if (k_cmp (o_eq hr.units) (q_v (pv 4)) (q_int)) (z_one (s_set (ps_set (i := 0) sc__law_changed.nd rfl (.inl rfl) (q_op o_add (q_slH (q_v (pv 0)) (q_v (pv 3))) (q_slL (q_v (pv 0)) (q_callB (c_max2 rfl) (by rfl) T.n_max (by decide +kernel) (a_cons (q_int) (a_cons (q_op o_sub (q_v (pv 3)) (q_int)) (a_nil))))))))) (z_one (s_if (k_cmp (o_eq hr.units) (q_v (pv 4)) (q_int)) (z_one (s_set (ps_set (i := 0) sc__law_changed.nd rfl (.inl rfl) (q_slL (q_v (pv 0)) (q_v (pv 3)))))) (z_one (s_set (ps_set (i := 0) sc__law_changed.nd rfl (.inl rfl) (q_op o_add (q_v (pv 0)) (q_op o_mul (q_str) (q_op o_mod (q_v (pv 3)) (q_int)))))))))))))))))))))
    (z_one (s_ret (q_v (pv 0)))))))
theorem ok__law_text_in {f : Addr} {fd : FuncData} (T : Txt w K mg) (C : Exs K mg cA)  (F : Fun K "_law_text_in" "_law_text_in" s__law_text_in f fd) (mgf : mg "_law_text_in" = some (.ref f)) (kp : PySem.W.keepIn K (.ref f) = true) (bd : Binds K fd ["text", "spot"] []) : FD P w K mg base cA 1 "_law_text_in" 2 m__law_text_in :=
  FD.drop (N := 4) (body := b__law_text_in) (fd_mk (body := b__law_text_in) (N := ["text", "spot", "found", "sign"]) (ps := ["text", "spot"]) (k := 0) F mgf kp bd sc__law_text_in (fun cdv A outer s H E hr =>
    (z_cons (s_set (ps_set (i := 2) sc__law_text_in.nd rfl (.inl rfl) (q_str)))
    (z_cons (s_wh (passes_of rfl) (k_cmp o_lt (q_ix (q_v (pv 1)) (q_int)) (q_callB c_len (by rfl) T.n_len (by decide +kernel) (a_cons (q_v (pv 0)) (a_nil)))) (z_cons (s_set (ps_set (i := 3) sc__law_text_in.nd rfl (.inl rfl) (q_ix (q_v (pv 0)) (q_ix (q_v (pv 1)) (q_int)))))
    (z_cons (s_setI (fun hv ho hi => ps_asg hv (pg_sub ho hi set_list)) (q_op o_add (q_ix (q_v (pv 1)) (q_int)) (q_int)) (q_v (pv 1)) (q_int))
    (z_cons (s_if (k_cmp (o_eq hr.units) (q_v (pv 3)) (q_str)) (z_one (s_ret (q_v (pv 2)))) (z_nil))
    (z_cons (s_if (k_cmp (o_eq hr.units) (q_v (pv 3)) (q_str)) (z_cons (s_if (k_cmp o_nin (q_sl2 (q_v (pv 0)) (q_ix (q_v (pv 1)) (q_int)) (q_op o_add (q_ix (q_v (pv 1)) (q_int)) (q_int))) (q_lst (a_cons (q_str) (a_cons (q_str) (a_nil))))) (z_one (s_ret (q_non))) (z_nil))
    (z_cons (s_set (ps_set (i := 3) sc__law_text_in.nd rfl (.inl rfl) (q_ix (q_v (pv 0)) (q_ix (q_v (pv 1)) (q_int)))))
    (z_one (s_setI (fun hv ho hi => ps_asg hv (pg_sub ho hi set_list)) (q_op o_add (q_ix (q_v (pv 1)) (q_int)) (q_int)) (q_v (pv 1)) (q_int))))) (z_nil))
    (z_one (s_set (ps_set (i := 2) sc__law_text_in.nd rfl (.inl rfl) (q_op o_add (q_v (pv 2)) (q_v (pv 3)))))))))))
    (z_one (s_ret (q_non)))))))
theorem ok__law_tree_in {f : Addr} {fd : FuncData} (T : Txt w K mg) (C : Exs K mg cA) (F__law_text_in : FD P w K mg base cA 1 "_law_text_in" 2 m__law_text_in) (n : Nat) (R__law_tree_in : FD P w K mg base cA (2 + n) "_law_tree_in" 2 (m__law_tree_in n)) (F : Fun K "_law_tree_in" "_law_tree_in" s__law_tree_in f fd) (mgf : mg "_law_tree_in" = some (.ref f)) (kp : PySem.W.keepIn K (.ref f) = true) (bd : Binds K fd ["text", "spot"] []) : FD P w K mg base cA (2 + (n + 1)) "_law_tree_in" 2 (m__law_tree_in (n + 1)) :=
  FD.drop (N := 5) (body := b__law_tree_in (m__law_tree_in n)) (fd_mk (body := b__law_tree_in (m__law_tree_in n)) (N := ["text", "spot", "sign", "parts", "part"]) (ps := ["text", "spot"]) (k := 2 + n) F mgf kp bd sc__law_tree_in (fun cdv A outer s H E hr =>
    (z_cons (s_set (ps_set (i := 2) sc__law_tree_in.nd rfl (.inl rfl) (q_sl2 (q_v (pv 0)) (q_ix (q_v (pv 1)) (q_int)) (q_op o_add (q_ix (q_v (pv 1)) (q_int)) (q_int)))))
    (z_cons (s_setI (fun hv ho hi => ps_asg hv (pg_sub ho hi set_list)) (q_op o_add (q_ix (q_v (pv 1)) (q_int)) (q_int)) (q_v (pv 1)) (q_int))
    (z_cons (s_if (k_cmp (o_eq hr.units) (q_v (pv 2)) (q_str)) (z_one (s_ret (q_call (takes_of rfl rfl rfl rfl) F__law_text_in hr (by omega) (by rfl) (a_cons (q_v (pv 0)) (a_cons (q_v (pv 1)) (a_nil)))))) (z_nil))
    (z_cons (s_if (k_cmp (o_ne hr.units) (q_v (pv 2)) (q_str)) (z_one (s_ret (q_non))) (z_nil))
    (z_cons (s_if (k_cmp (o_eq hr.units) (q_sl2 (q_v (pv 0)) (q_ix (q_v (pv 1)) (q_int)) (q_op o_add (q_ix (q_v (pv 1)) (q_int)) (q_int))) (q_str)) (z_cons (s_setI (fun hv ho hi => ps_asg hv (pg_sub ho hi set_list)) (q_op o_add (q_ix (q_v (pv 1)) (q_int)) (q_int)) (q_v (pv 1)) (q_int))
    (z_one (s_ret (q_tup (a_nil))))) (z_nil))
    (z_cons (s_set (ps_set (i := 3) sc__law_tree_in.nd rfl (.inl rfl) (q_new (a_nil))))
    (z_cons (s_wh (passes_of rfl) (k_cmp (o_ne hr.units) (q_v (pv 2)) (q_str)) (z_cons (s_set (ps_set (i := 4) sc__law_tree_in.nd rfl (.inl rfl) (q_call (takes_of rfl rfl rfl rfl) R__law_tree_in hr (Nat.le_refl _) (by rfl) (a_cons (q_v (pv 0)) (a_cons (q_v (pv 1)) (a_nil))))))
    (z_cons (s_if (k_cmp o_is (q_v (pv 4)) (q_non)) (z_one (s_ret (q_non))) (z_nil))
    (z_cons (s_ex (q_app (q_v (pv 3)) (q_v (pv 4)) (fun h1 h2 => pe_bm PySem.F.plainAttrs_list PySem.F.slot_list_append PySem.F.type_list_append mt_append h1 h2)))
    (z_cons (s_set (ps_set (i := 2) sc__law_tree_in.nd rfl (.inl rfl) (q_sl2 (q_v (pv 0)) (q_ix (q_v (pv 1)) (q_int)) (q_op o_add (q_ix (q_v (pv 1)) (q_int)) (q_int)))))
    (z_cons (s_setI (fun hv ho hi => ps_asg hv (pg_sub ho hi set_list)) (q_op o_add (q_ix (q_v (pv 1)) (q_int)) (q_int)) (q_v (pv 1)) (q_int))
    (z_one (s_if (k_cmp o_nin (q_v (pv 2)) (q_lst (a_cons (q_str) (a_cons (q_str) (a_nil))))) (z_one (s_ret (q_non))) (z_nil)))))))))
    (z_one (s_ret (q_callT c_tuple (by rfl) T.n_tuple (by decide +kernel) (a_cons (q_v (pv 3)) (a_nil))))))))))))))
theorem ok__law_due {f : Addr} {fd : FuncData} (T : Txt w K mg) (C : Exs K mg cA) (F__law_tree_in : FD P w K mg base cA 172 "_law_tree_in" 2 (m__law_tree_in 170)) (F__law_is_tree : FD P w K mg base cA 173 "_law_is_tree" 1 m__law_is_tree) (F : Fun K "_law_due" "_law_due" s__law_due f fd) (mgf : mg "_law_due" = some (.ref f)) (kp : PySem.W.keepIn K (.ref f) = true) (bd : Binds K fd ["text"] []) : FD P w K mg base cA 174 "_law_due" 1 m__law_due :=
  FD.drop (N := 3) (body := b__law_due) (fd_mk (body := b__law_due) (N := ["text", "spot", "tree"]) (ps := ["text"]) (k := 173) F mgf kp bd sc__law_due (fun cdv A outer s H E hr =>
    (z_cons (s_set (ps_set (i := 1) sc__law_due.nd rfl (.inl rfl) (q_new (a_cons (q_int) (a_nil)))))
    (z_cons (s_set (ps_set (i := 2) sc__law_due.nd rfl (.inl rfl) (q_call (takes_of rfl rfl rfl rfl) F__law_tree_in hr (by decide) (by rfl) (a_cons (q_v (pv 0)) (a_cons (q_v (pv 1)) (a_nil))))))
    (z_cons (s_if ((w_or (k_cmp o_is (q_v (pv 2)) (q_non)) (w_or (k_cmp (o_ne hr.units) (q_ix (q_v (pv 1)) (q_int)) (q_callB c_len (by rfl) T.n_len (by decide +kernel) (a_cons (q_v (pv 0)) (a_nil)))) (w_or1 (k_not (k_val (q_call (takes_of rfl rfl rfl rfl) F__law_is_tree hr (by decide) (by rfl) (a_cons (q_v (pv 2)) (a_nil)))))))).pt) (z_one (s_ret (q_non))) (z_nil))
    (z_one (s_ret (q_v (pv 2)))))))))
theorem ok_text_from {f : Addr} {fd : FuncData} (T : Txt w K mg) (C : Exs K mg cA)  (F : Fun K "text_from" "text_from" s_text_from f fd) (mgf : mg "text_from" = some (.ref f)) (kp : PySem.W.keepIn K (.ref f) = true) (bd : Binds K fd ["text", "at"] []) : FD P w K mg base cA 1 "text_from" 2 m_text_from :=
  FD.drop (N := 3) (body := b_text_from) (fd_mk (body := b_text_from) (N := ["text", "at", "signs"]) (ps := ["text", "at"]) (k := 0) F mgf kp bd sc_text_from (fun cdv A outer s H E hr =>
    (z_cons (s_set (ps_set (i := 2) sc_text_from.nd rfl (.inl rfl) (q_new (a_nil))))
    (z_cons (s_wh (passes_of rfl) (k_cmp (o_ne hr.units) (q_sl2 (q_v (pv 0)) (q_v (pv 1)) (q_op o_add (q_v (pv 1)) (q_int))) (q_str)) (z_cons (s_if (k_cmp (o_eq hr.units) (q_sl2 (q_v (pv 0)) (q_v (pv 1)) (q_op o_add (q_v (pv 1)) (q_int))) (q_str)) (z_one (s_aug o_iadd (fun h1 h2 => ps_aug (i := 1) sc_text_from.nd rfl (.inl rfl) h1 h2) (q_int))) (z_nil))
    (z_cons (s_if (k_cmp o_geI (q_v (pv 1)) (q_callB c_len (by rfl) T.n_len (by decide +kernel) (a_cons (q_v (pv 0)) (a_nil)))) (z_one (s_raise (c := "BadTree") rfl (takes_of rfl rfl rfl rfl) (pmk_own PySem.F.excBase_ValueError C.x_BadTree C.g_BadTree C.k_BadTree (raises_own C.b_BadTree C.t_BadTree) (by rfl)))) (z_nil))
    (z_cons (s_ex (q_app (q_v (pv 2)) (q_ix (q_v (pv 0)) (q_v (pv 1))) (fun h1 h2 => pe_bm PySem.F.plainAttrs_list PySem.F.slot_list_append PySem.F.type_list_append mt_append h1 h2)))
    (z_one (s_aug o_iadd (fun h1 h2 => ps_aug (i := 1) sc_text_from.nd rfl (.inl rfl) h1 h2) (q_int)))))))
    (z_one (s_ret (q_tup (a_cons (q_join (q_str) (q_v (pv 2))) (a_cons (q_op o_add (q_v (pv 1)) (q_int)) (a_nil))))))))))
theorem ok_row_from {f : Addr} {fd : FuncData} (T : Txt w K mg) (C : Exs K mg cA)  (n : Nat) (R_row_from : FD P w K mg base cA (2 + n) "row_from" 3 (m_row_from n)) (R_tree_from : FD P w K mg base cA (2 + n) "tree_from" 3 (m_tree_from n)) (F : Fun K "row_from" "row_from" s_row_from f fd) (mgf : mg "row_from" = some (.ref f)) (kp : PySem.W.keepIn K (.ref f) = true) (bd : Binds K fd ["text", "at", "deep"] []) : FD P w K mg base cA (2 + (n + 1)) "row_from" 3 (m_row_from (n + 1)) :=
  FD.drop (N := 5) (body := b_row_from (m_row_from n) (m_tree_from n)) (fd_mk (body := b_row_from (m_row_from n) (m_tree_from n)) (N := ["text", "at", "deep", "parts", "part"]) (ps := ["text", "at", "deep"]) (k := 2 + n) F mgf kp bd sc_row_from (fun cdv A outer s H E hr =>
    (z_cons (s_set (ps_set (i := 3) sc_row_from.nd rfl (.inl rfl) (q_new (a_nil))))
    (z_cons (s_wh (passes_of rfl) (k_cmp (o_ne hr.units) (q_sl2 (q_v (pv 0)) (q_v (pv 1)) (q_op o_add (q_v (pv 1)) (q_int))) (q_str)) (z_cons (s_asg (g_tup (g_cons (g_nm) (g_cons (g_nm) (g_nil)))) (ps_asg (q_call (takes_of rfl rfl rfl rfl) R_tree_from hr (Nat.le_refl _) (by rfl) (a_cons (q_v (pv 0)) (a_cons (q_v (pv 1)) (a_cons (q_v (pv 2)) (a_nil))))) (pgTL rfl (pgs_cons (pg_name (i := 4) sc_row_from.nd rfl (.inl rfl)) (pgs_cons (pg_name (i := 1) sc_row_from.nd rfl (.inl rfl)) (pgs_nil))))))
    (z_cons (s_ex (q_app (q_v (pv 3)) (q_v (pv 4)) (fun h1 h2 => pe_bm PySem.F.plainAttrs_list PySem.F.slot_list_append PySem.F.type_list_append mt_append h1 h2)))
    (z_one (s_if (k_cmp (o_eq hr.units) (q_sl2 (q_v (pv 0)) (q_v (pv 1)) (q_op o_add (q_v (pv 1)) (q_int))) (q_str)) (z_one (s_aug o_iadd (fun h1 h2 => ps_aug (i := 1) sc_row_from.nd rfl (.inl rfl) h1 h2) (q_int))) (z_one (s_if (k_cmp (o_ne hr.units) (q_sl2 (q_v (pv 0)) (q_v (pv 1)) (q_op o_add (q_v (pv 1)) (q_int))) (q_str)) (z_one (s_raise (c := "BadTree") rfl (takes_of rfl rfl rfl rfl) (pmk_own PySem.F.excBase_ValueError C.x_BadTree C.g_BadTree C.k_BadTree (raises_own C.b_BadTree C.t_BadTree) (by rfl)))) (z_nil))))))))
    (z_one (s_ret (q_tup (a_cons (q_callT c_tuple (by rfl) T.n_tuple (by decide +kernel) (a_cons (q_v (pv 3)) (a_nil))) (a_cons (q_op o_add (q_v (pv 1)) (q_int)) (a_nil))))))))))
theorem ok_tree_from {f : Addr} {fd : FuncData} (T : Txt w K mg) (C : Exs K mg cA) (F_text_from : FD P w K mg base cA 1 "text_from" 2 m_text_from) (n : Nat) (R_row_from : FD P w K mg base cA (2 + n) "row_from" 3 (m_row_from n)) (R_tree_from : FD P w K mg base cA (2 + n) "tree_from" 3 (m_tree_from n)) (F : Fun K "tree_from" "tree_from" s_tree_from f fd) (mgf : mg "tree_from" = some (.ref f)) (kp : PySem.W.keepIn K (.ref f) = true) (bd : Binds K fd ["text", "at", "deep"] []) : FD P w K mg base cA (2 + (n + 1)) "tree_from" 3 (m_tree_from (n + 1)) :=
  FD.drop (N := 3) (body := b_tree_from (m_row_from n) (m_tree_from n)) (fd_mk (body := b_tree_from (m_row_from n) (m_tree_from n)) (N := ["text", "at", "deep"]) (ps := ["text", "at", "deep"]) (k := 2 + n) F mgf kp bd sc_tree_from (fun cdv A outer s H E hr =>
    (z_cons (s_if (k_cmp (o_eq hr.units) (q_v (pv 2)) (q_int)) (z_one (s_raise (c := "BadTree") rfl (takes_of rfl rfl rfl rfl) (pmk_own PySem.F.excBase_ValueError C.x_BadTree C.g_BadTree C.k_BadTree (raises_own C.b_BadTree C.t_BadTree) (by rfl)))) (z_nil))
    (z_cons (s_if (k_cmp (o_eq hr.units) (q_sl2 (q_v (pv 0)) (q_v (pv 1)) (q_op o_add (q_v (pv 1)) (q_int))) (q_str)) (z_one (s_ret (q_call (takes_of rfl rfl rfl rfl) F_text_from hr (by omega) (by rfl) (a_cons (q_v (pv 0)) (a_cons (q_op o_add (q_v (pv 1)) (q_int)) (a_nil)))))) (z_nil))
    (z_cons (s_if (k_cmp (o_eq hr.units) (q_sl2 (q_v (pv 0)) (q_v (pv 1)) (q_op o_add (q_v (pv 1)) (q_int))) (q_str)) (z_one (s_ret (q_call (takes_of rfl rfl rfl rfl) R_row_from hr (Nat.le_refl _) (by rfl) (a_cons (q_v (pv 0)) (a_cons (q_op o_add (q_v (pv 1)) (q_int)) (a_cons (q_op o_sub (q_v (pv 2)) (q_int)) (a_nil))))))) (z_nil))
    (z_one (s_raise (c := "BadTree") rfl (takes_of rfl rfl rfl rfl) (pmk_own PySem.F.excBase_ValueError C.x_BadTree C.g_BadTree C.k_BadTree (raises_own C.b_BadTree C.t_BadTree) (by rfl)))))))))
theorem ok_is_plain {f : Addr} {fd : FuncData} (T : Txt w K mg) (C : Exs K mg cA)  (F : Fun K "is_plain" "is_plain" s_is_plain f fd) (mgf : mg "is_plain" = some (.ref f)) (kp : PySem.W.keepIn K (.ref f) = true) (bd : Binds K fd ["value"] []) : FD P w K mg base cA 1 "is_plain" 1 m_is_plain :=
  FD.drop (N := 2) (body := b_is_plain) (fd_mk (body := b_is_plain) (N := ["value", "sign"]) (ps := ["value"]) (k := 0) F mgf kp bd sc_is_plain (fun cdv A outer s H E hr =>
    (z_one (s_ret (q_and (q_isi (n := "str") (by rfl) T.n_isinstance (q_v (pv 0)) (q_ty (by rfl) T.n_str (by decide +kernel))) (q_one (q_callB (c_all rfl) (by rfl) T.n_all (by decide +kernel) (a_cons (q_lc (own := [("sign", 1)]) (g := gName 1) (g_nm) (by decide) rfl sc_is_plain.nd (q_v (pv 0)) (blkOk_by (N := ["value", "sign"]) (sc := defScope s_is_plain) (by decide +kernel)) (fun _ _ _ _ _ => pg_name (i := 1) sc_is_plain.nd rfl (.inl rfl)) (fun _ _ _ _ _ => x_nil) (fun _ _ _ _ _ => q_or (q_chain o_le o_le (q_str) (q_v (pv 1)) (q_str)) (q_one (q_chain o_le o_le (q_str) (q_v (pv 1)) (q_str))))) (a_nil)))))))))
theorem ok_room_left {f : Addr} {fd : FuncData} (T : Txt w K mg) (C : Exs K mg cA) (F_is_plain : FD P w K mg base cA 1 "is_plain" 1 m_is_plain) (n : Nat) (R_room_left : FD P w K mg base cA (2 + n) "room_left" 3 (m_room_left n)) (F : Fun K "room_left" "room_left" s_room_left f fd) (mgf : mg "room_left" = some (.ref f)) (kp : PySem.W.keepIn K (.ref f) = true) (bd : Binds K fd ["value", "deep", "room"] []) : FD P w K mg base cA (2 + (n + 1)) "room_left" 3 (m_room_left (n + 1)) :=
  FD.drop (N := 4) (body := b_room_left (m_room_left n)) (fd_mk (body := b_room_left (m_room_left n)) (N := ["value", "deep", "room", "part"]) (ps := ["value", "deep", "room"]) (k := 2 + n) F mgf kp bd sc_room_left (fun cdv A outer s H E hr =>
    (z_cons (s_if (k_cmp (o_eq hr.units) (q_v (pv 1)) (q_int)) (z_one (s_ret (q_non))) (z_nil))
    (z_cons (s_if (k_val (q_isi (n := "tuple") (by rfl) T.n_isinstance (q_v (pv 0)) (q_ty (by rfl) T.n_tuple (by decide +kernel)))) (z_cons (s_if ((w_or (k_cmp o_gtI (q_callB c_len (by rfl) T.n_len (by decide +kernel) (a_cons (q_v (pv 0)) (a_nil))) (q_gint (by rfl) T.g_MOST_PARTS)) (w_or1 (k_cmp o_lt (q_v (pv 2)) (q_int)))).pt) (z_one (s_ret (q_non))) (z_nil))
    (z_cons (s_aug o_isub (fun h1 h2 => ps_aug (i := 2) sc_room_left.nd rfl (.inl rfl) h1 h2) (q_int))
    (z_cons (s_for (passes_of rfl) rfl (q_v (pv 0)) (pg_name (i := 3) sc_room_left.nd rfl (.inl rfl)) (g_nm) (z_cons (s_set (ps_set (i := 2) sc_room_left.nd rfl (.inl rfl) (q_call (takes_of rfl rfl rfl rfl) R_room_left hr (Nat.le_refl _) (by rfl) (a_cons (q_v (pv 3)) (a_cons (q_op o_sub (q_v (pv 1)) (q_int)) (a_cons (q_v (pv 2)) (a_nil)))))))
    (z_one (s_if (k_cmp o_is (q_v (pv 2)) (q_non)) (z_one (s_ret (q_non))) (z_nil)))))
    (z_one (s_ret (q_v (pv 2))))))) (z_nil))
    (z_cons (s_if ((w_or (k_not (k_val (q_isi (n := "str") (by rfl) T.n_isinstance (q_v (pv 0)) (q_ty (by rfl) T.n_str (by decide +kernel))))) (w_or (k_cmp o_gtI (q_callB c_len (by rfl) T.n_len (by decide +kernel) (a_cons (q_v (pv 0)) (a_nil))) (q_gint (by rfl) T.g_MOST_SIGNS)) (w_or (k_cmp o_geI (q_callB c_len (by rfl) T.n_len (by decide +kernel) (a_cons (q_v (pv 0)) (a_nil))) (q_v (pv 2))) (w_or1 (k_not (k_val (q_call (takes_of rfl rfl rfl rfl) F_is_plain hr (by omega) (by rfl) (a_cons (q_v (pv 0)) (a_nil))))))))).pt) (z_one (s_ret (q_non))) (z_nil))
    (z_one (s_ret (q_op o_sub (q_op o_sub (q_v (pv 2)) (q_callB c_len (by rfl) T.n_len (by decide +kernel) (a_cons (q_v (pv 0)) (a_nil)))) (q_int)))))))))
theorem ok_is_tree {f : Addr} {fd : FuncData} (T : Txt w K mg) (C : Exs K mg cA) (F_room_left : FD P w K mg base cA 172 "room_left" 3 (m_room_left 170)) (F : Fun K "is_tree" "is_tree" s_is_tree f fd) (mgf : mg "is_tree" = some (.ref f)) (kp : PySem.W.keepIn K (.ref f) = true) (bd : Binds K fd ["value"] []) : FD P w K mg base cA 173 "is_tree" 1 m_is_tree :=
  FD.drop (N := 1) (body := b_is_tree) (fd_mk (body := b_is_tree) (N := ["value"]) (ps := ["value"]) (k := 172) F mgf kp bd sc_is_tree (fun cdv A outer s H E hr =>
    (z_one (s_ret (q_cmp o_isn (q_call (takes_of rfl rfl rfl rfl) F_room_left hr (by decide) (by rfl) (a_cons (q_v (pv 0)) (a_cons (q_gint (by rfl) T.g_MOST_DEEP) (a_cons (q_gint (by rfl) T.g_MOST_SIZE) (a_nil))))) (q_non))))))
theorem ok_read_tree {f : Addr} {fd : FuncData} (T : Txt w K mg) (C : Exs K mg cA) (F_tree_from : FD P w K mg base cA 172 "tree_from" 3 (m_tree_from 170)) (F_is_tree : FD P w K mg base cA 173 "is_tree" 1 m_is_tree) (F_tree_text : FD P w K mg base cA 171 "tree_text" 1 (m_tree_text 170)) (F : Fun K "read_tree" "read_tree" s_read_tree f fd) (mgf : mg "read_tree" = some (.ref f)) (kp : PySem.W.keepIn K (.ref f) = true) (bd : Binds K fd ["text"] []) : FD P w K mg base cA 174 "read_tree" 1 m_read_tree :=
  FD.drop (N := 2) (body := b_read_tree) (fd_mk (body := b_read_tree) (N := ["text", "tree"]) (ps := ["text"]) (k := 173) F mgf kp bd sc_read_tree (fun cdv A outer s H E hr =>
    (z_cons (s_set (ps_set (i := 1) sc_read_tree.nd rfl (.inl rfl) (q_ix (q_call (takes_of rfl rfl rfl rfl) F_tree_from hr (by decide) (by rfl) (a_cons (q_v (pv 0)) (a_cons (q_int) (a_cons (q_gint (by rfl) T.g_MOST_DEEP) (a_nil))))) (q_int))))
    (z_cons (s_if ((w_or (k_not (k_val (q_call (takes_of rfl rfl rfl rfl) F_is_tree hr (by decide) (by rfl) (a_cons (q_v (pv 1)) (a_nil))))) (w_or1 (k_cmp (o_ne hr.units) (q_call (takes_of rfl rfl rfl rfl) F_tree_text hr (by decide) (by rfl) (a_cons (q_v (pv 1)) (a_nil))) (q_v (pv 0))))).pt) (z_one (s_raise (c := "BadTree") rfl (takes_of rfl rfl rfl rfl) (pmk_own PySem.F.excBase_ValueError C.x_BadTree C.g_BadTree C.k_BadTree (raises_own C.b_BadTree C.t_BadTree) (by rfl)))) (z_nil))
    (z_one (s_ret (q_v (pv 1))))))))
theorem ok__law_read {f : Addr} {fd : FuncData} (T : Txt w K mg) (C : Exs K mg cA) (F_read_tree : FD P w K mg base cA 174 "read_tree" 1 m_read_tree) (F : Fun K "_law_read" "_law_read" s__law_read f fd) (mgf : mg "_law_read" = some (.ref f)) (kp : PySem.W.keepIn K (.ref f) = true) (bd : Binds K fd ["text"] []) : FD P w K mg base cA 175 "_law_read" 1 m__law_read :=
  FD.drop (N := 5) (body := b__law_read) (fd_mk (body := b__law_read) (N := ["text", "found", "error", "e", "others"]) (ps := ["text"]) (k := 174) F mgf kp bd sc__law_read (fun cdv A outer s H E hr =>
    (z_cons (s_set (ps_set (i := 1) sc__law_read.nd rfl (.inl rfl) (q_non)))
    (z_cons (s_set (ps_set (i := 2) sc__law_read.nd rfl (.inl rfl) (q_non)))
    (z_cons (s_tryAs (i := 3) (tb := tbF [("BadTree", true)]) rfl rfl rfl sc__law_read.nd rfl rfl (⟨by rfl, by decide, .inl C.g_WrightError⟩ : Names _ "WrightError" (.ref (cA "WrightError"))) (takes_of rfl rfl rfl rfl) (tb_cons C.m_BadTree_WrightError (tb_nil)) (fun _ _ _ tk po => z_one (s_set (ps_set (i := 1) sc__law_read.nd rfl (.inl rfl) (q_call tk F_read_tree hr (by decide) (by rfl) (a_cons (q_v (pv 0)) (a_nil)))))) (fun _ _ => z_one (s_set (ps_set (i := 2) sc__law_read.nd rfl (.inl rfl) (q_v (pv 3))))))
    (z_cons (s_if (k_cmp o_is (q_v (pv 2)) (q_non)) (z_one (s_ret (q_v (pv 1)))) (z_nil))
    (z_cons (s_set (ps_set (i := 4) sc__law_read.nd rfl (.inl rfl) (q_isxT (by rfl) T.n_isinstance (q_v (pv 2)) (pcs_cons (pe_glob (v := .ref (cA "BadKeep")) (by rfl) C.g_BadKeep rfl) (pcs_cons (pe_glob (v := .ref (cA "BadName")) (by rfl) C.g_BadName rfl) (pcs_cons (pe_glob (v := .ref (cA "BadRule")) (by rfl) C.g_BadRule rfl) (pcs_cons (pe_glob (v := .ref (cA "BadText")) (by rfl) C.g_BadText rfl) (pcs_cons (pe_glob (v := .ref (cA "BadThing")) (by rfl) C.g_BadThing rfl) (pcs_nil)))))) (.cons (.own _) (.cons (.own _) (.cons (.own _) (.cons (.own _) (.cons (.own _) .nil))))) (by simp) (tb_cons ⟨C.i_BadTree, (kitAny_cons C.q_BadTree_BadKeep (fun _ => (kitAny_cons C.q_BadTree_BadName (fun _ => (kitAny_cons C.q_BadTree_BadRule (fun _ => (kitAny_cons C.q_BadTree_BadText (fun _ => (kitAny_cons C.q_BadTree_BadThing (fun _ => kitAny_nil) (fun z => by cases z))) (fun z => by cases z))) (fun z => by cases z))) (fun z => by cases z))) (fun z => by cases z))⟩ (tb_nil)) (kitAny_cons C.n_BadKeep (fun _ => (kitAny_cons C.n_BadName (fun _ => (kitAny_cons C.n_BadRule (fun _ => (kitAny_cons C.n_BadText (fun _ => (kitAny_cons C.n_BadThing (fun _ => kitAny_nil) (fun z => by cases z))) (fun z => by cases z))) (fun z => by cases z))) (fun z => by cases z))) (fun z => by cases z)))))
    (z_one (s_ret (q_op o_mulL (q_lst (a_cons (q_str) (a_nil))) (q_callT c_int (by rfl) T.n_int (by decide +kernel) (a_cons (q_or (q_v (pv 4)) (q_or (q_not (q_isx (by rfl) T.n_isinstance (q_v (pv 2)) (pe_glob (v := .ref (cA "BadTree")) (by rfl) C.g_BadTree rfl) (.own _) (tb_cons ⟨C.i_BadTree, C.q_BadTree_BadTree⟩ (tb_nil)) C.n_BadTree)) (q_one (q_not (q_isx (by rfl) T.n_isinstance (q_v (pv 2)) (q_ty (n := "ValueError") (by rfl) T.n_ValueError (by decide +kernel)) (.ty _) (tb_cons ⟨C.i_BadTree, C.q_BadTree_ValueError⟩ (tb_nil)) C.n_ValueError))))) (a_nil)))))))))))))
theorem ok__law_written {f : Addr} {fd : FuncData} (T : Txt w K mg) (C : Exs K mg cA)  (n : Nat) (R__law_written : FD P w K mg base cA (1 + n) "_law_written" 1 (m__law_written n)) (F : Fun K "_law_written" "_law_written" s__law_written f fd) (mgf : mg "_law_written" = some (.ref f)) (kp : PySem.W.keepIn K (.ref f) = true) (bd : Binds K fd ["tree"] []) : FD P w K mg base cA (1 + (n + 1)) "_law_written" 1 (m__law_written (n + 1)) :=
  FD.drop (N := 4) (body := b__law_written (m__law_written n)) (fd_mk (body := b__law_written (m__law_written n)) (N := ["tree", "text", "sign", "part"]) (ps := ["tree"]) (k := 1 + n) F mgf kp bd sc__law_written (fun cdv A outer s H E hr =>
    (z_cons (s_if (k_val (q_isi (n := "str") (by rfl) T.n_isinstance (q_v (pv 0)) (q_ty (by rfl) T.n_str (by decide +kernel)))) (z_cons (s_set (ps_set (i := 1) sc__law_written.nd rfl (.inl rfl) (q_str)))
    (z_cons (s_for (passes_of rfl) rfl (q_v (pv 0)) (pg_name (i := 2) sc__law_written.nd rfl (.inl rfl)) (g_nm) (z_cons (s_if (k_cmp o_in (q_v (pv 2)) (q_lst (a_cons (q_str) (a_cons (q_str) (a_nil))))) (z_one (s_set (ps_set (i := 1) sc__law_written.nd rfl (.inl rfl) (q_op o_add (q_v (pv 1)) (q_str))))) (z_nil))
    (z_one (s_set (ps_set (i := 1) sc__law_written.nd rfl (.inl rfl) (q_op o_add (q_v (pv 1)) (q_v (pv 2))))))))
    (z_one (s_ret (q_op o_add (q_op o_add (q_str) (q_v (pv 1))) (q_str)))))) (z_nil))
    (z_one (s_ret (q_op o_add (q_op o_add (q_str) (q_join (q_str) (q_lc (own := [("part", 3)]) (g := gName 3) (g_nm) (by decide) rfl sc__law_written.nd (q_v (pv 0)) (blkOk_by (N := ["tree", "text", "sign", "part"]) (sc := defScope s__law_written) (by decide +kernel)) (fun _ _ _ _ _ => pg_name (i := 3) sc__law_written.nd rfl (.inl rfl)) (fun _ _ _ _ _ => x_nil) (fun _ _ _ _ _ => q_call takes0 R__law_written hr (Nat.le_refl _) (by rfl) (a_cons (q_v (pv 3)) (a_nil)))))) (q_str)))))))
theorem ok_law {f : Addr} {fd : FuncData} (T : Txt w K mg) (C : Exs K mg cA) (F__law_pot : FD P w K mg base cA 1 "_law_pot" 2 m__law_pot) (F__law_good_tree : FD P w K mg base cA 174 "_law_good_tree" 1 m__law_good_tree) (F_tree_text : FD P w K mg base cA 171 "tree_text" 1 (m_tree_text 170)) (F__law_written : FD P w K mg base cA 171 "_law_written" 1 (m__law_written 170)) (F__law_read : FD P w K mg base cA 175 "_law_read" 1 m__law_read) (F__law_changed : FD P w K mg base cA 2 "_law_changed" 2 m__law_changed) (F__law_due : FD P w K mg base cA 174 "_law_due" 1 m__law_due) (F_read_tree : FD P w K mg base cA 174 "read_tree" 1 m_read_tree) (F : Fun K "law" "law" s_law f fd)
  (hm : ∀ ns : List Int, ns.length ≤ 63 → ∃ S, m_law [.scr (ns.map D.int)] [] = .ok (.bl true) S) : FnOk P w K mg base CX0 176 f fd ["script"] (spLaw K 63) :=
  law_mk (n := 63) (cA := cA) (N := ["script", "cell", "pot", "tree", "text", "turn", "other", "due", "found", "deep"]) (k := 175) (body := b_law) F sc_law (fun cdv A outer s H E hr => (z_cons (s_for PassesOwn.never rfl (q_op o_add (q_lst (a_cons (q_callB c_len (by rfl) T.n_len (by decide +kernel) (a_cons (q_v (pv 0)) (a_nil))) (a_nil))) (q_callT c_list (by rfl) T.n_list (by decide +kernel) (a_cons (q_slH (q_v (pv 0)) (q_int)) (a_nil)))) (pg_name (i := 1) sc_law.nd rfl (.inl rfl)) (g_nm) (z_cons (s_set (ps_set (i := 2) sc_law.nd rfl (.inl rfl) (q_call takes0 F__law_pot hr (by decide) (by rfl) (a_cons (q_v (pv 1)) (a_cons (q_int) (a_nil))))))
    (z_cons (s_set (ps_set (i := 3) sc_law.nd rfl (.inl rfl) (q_call takes0 F__law_good_tree hr (by decide) (by rfl) (a_cons (q_v (pv 2)) (a_nil)))))
    (z_cons (s_set (ps_set (i := 4) sc_law.nd rfl (.inl rfl) (q_call takes0 F_tree_text hr (by decide) (by rfl) (a_cons (q_v (pv 3)) (a_nil)))))
    (z_cons (s_if ((w_or (k_cmp (o_ne hr.units) (q_v (pv 4)) (q_call takes0 F__law_written hr (by decide) (by rfl) (a_cons (q_v (pv 3)) (a_nil)))) (w_or (k_cmp (o_ne hr.units) (q_call takes0 F__law_read hr (by decide) (by rfl) (a_cons (q_v (pv 4)) (a_nil))) (q_v (pv 3))) (w_or1 (k_val (q_isi (n := "list") (by rfl) T.n_isinstance (q_call takes0 F__law_read hr (by decide) (by rfl) (a_cons (q_v (pv 4)) (a_nil))) (q_ty (by rfl) T.n_list (by decide +kernel))))))).pt) (z_one (s_ret (q_bl))) (z_nil))
    (z_one (s_forR PassesOwn.never rfl (by rfl) T.n_range (a_cons (q_int) a_nil) (pg_name (i := 5) sc_law.nd rfl (.inl rfl)) (g_nm) (z_cons (s_set (ps_set (i := 6) sc_law.nd rfl (.inl rfl) (q_call takes0 F__law_changed hr (by decide) (by rfl) (a_cons (q_v (pv 4)) (a_cons (q_v (pv 2)) (a_nil))))))
    (z_cons (s_set (ps_set (i := 7) sc_law.nd rfl (.inl rfl) (q_call takes0 F__law_due hr (by decide) (by rfl) (a_cons (q_v (pv 6)) (a_nil)))))
    (z_cons (s_set (ps_set (i := 8) sc_law.nd rfl (.inl rfl) (q_call takes0 F__law_read hr (by decide) (by rfl) (a_cons (q_v (pv 6)) (a_nil)))))
    (z_one (s_if ((w_or ((w_and (k_cmp o_is (q_v (pv 7)) (q_non)) (w_and1 (k_cmp (o_ne hr.units) (q_v (pv 8)) (q_lst (a_nil))))).pt) (w_or1 ((w_and (k_cmp o_isn (q_v (pv 7)) (q_non)) (w_and1 (k_cmp (o_ne hr.units) (q_v (pv 8)) (q_v (pv 7))))).pt))).pt) (z_one (s_ret (q_bl))) (z_nil)))))))))))))
    (z_cons (s_set (ps_set (i := 9) sc_law.nd rfl (.inl rfl) (q_op o_add (q_int) (q_op o_mod (q_callB (c_sum rfl) (by rfl) T.n_sum (by decide +kernel) (a_cons (q_v (pv 0)) (a_nil))) (q_int)))))
    (z_cons (s_for PassesOwn.never rfl (q_lst (a_cons (q_str) (a_cons (q_op o_add (q_op o_mul (q_str) (q_int)) (q_op o_mul (q_str) (q_int))) (a_cons (q_op o_mul (q_str) (q_v (pv 9))) (a_cons (q_op o_add (q_op o_mul (q_str) (q_v (pv 9))) (q_op o_mul (q_str) (q_v (pv 9)))) (a_cons (q_op o_add (q_op o_add (q_op o_mul (q_str) (q_v (pv 9))) (q_str)) (q_op o_mul (q_str) (q_v (pv 9)))) (a_nil))))))) (pg_name (i := 4) sc_law.nd rfl (.inl rfl)) (g_nm) (z_one (s_if (k_cmp (o_ne hr.units) (q_call takes0 F__law_read hr (by decide) (by rfl) (a_cons (q_v (pv 4)) (a_nil))) (q_lst (a_nil))) (z_one (s_ret (q_bl))) (z_nil))))
    (z_one (s_ret (q_and (q_cmp (o_ne hr.units) (q_call takes0 F_read_tree hr (by decide) (by rfl) (a_cons (q_op o_add (q_op o_mul (q_str) (q_int)) (q_op o_mul (q_str) (q_int))) (a_nil))) (q_tup (a_nil))) (q_one (q_cmp (o_eq hr.units) (q_call takes0 F_read_tree hr (by decide) (by rfl) (a_cons (q_str) (a_nil))) (q_tup (a_nil))))))))))) hm
end

end Law


namespace Law
open PySem PySem.Spec PyProof.Rows L2 DL
local macro_rules | `(tactic| walk_at "S") => `(tactic| (repeat (first | ((with_reducible refine (show OkE (opt _ _) _ _ from ?_)); (first | (with_reducible refine k_addI ?_) | (with_reducible refine k_subI ?_) | (with_reducible refine k_eqI ?_) | (with_reducible refine k_neI ?_) | (with_reducible refine k_ltI ?_) | (with_reducible refine k_leI ?_) | (with_reducible refine k_gtI ?_) | (with_reducible refine k_geI ?_) | (with_reducible refine k_eqS ?_) | (with_reducible refine k_neS ?_) | (with_reducible refine k_lenT ?_) | (with_reducible refine k_lenL ?_) | (with_reducible refine k_lenC ?_) | (with_reducible refine k_tupT ?_) | (with_reducible refine k_tupL ?_) | (with_reducible refine k_lstL ?_) | (with_reducible refine k_lstC ?_) | (with_reducible refine k_lstT ?_) | (with_reducible refine k_ltS ?_) | (with_reducible refine k_min2 ?_) | (with_reducible refine k_eqB ?_) | (with_reducible refine k_neB ?_) | (with_reducible refine k_slT ?_) | (with_reducible refine k_slL' ?_) | (with_reducible refine k_slC ?_) | (with_reducible refine k_strS ?_) | (with_reducible refine k_intI ?_) | (with_reducible refine k_intB ?_) | (with_reducible refine k_max2 ?_) | (with_reducible refine k_isxN ?_) | (with_reducible refine kp_kin ?_) | (with_reducible refine k_inT2 ?_) | (with_reducible refine k_inT3 ?_) | (with_reducible refine k_inT4 ?_) | (with_reducible refine k_inL2 ?_) | (with_reducible refine k_inL3 ?_) | (with_reducible refine k_inL4 ?_) | (with_reducible refine k_neg ?_) | ((with_reducible refine k_lenO (ds := ?_) ?_ ?_); rotate_left 1; rfl) | ((with_reducible refine k_tupO (ds := ?_) ?_ ?_); rotate_left 1; rfl) | ((with_reducible refine k_isi (t := ?_) ?_ ?_); rotate_left 1; rfl) | ((with_reducible refine k_is (z := ?_) ?_ ?_); rotate_left 1; rfl) | ((with_reducible refine k_isn (z := ?_) ?_ ?_); rotate_left 1; rfl) | ((with_reducible refine k_ixT (d := ?_) ?_ ?_); rotate_left 1; rfl) | ((with_reducible refine k_ixL (d := ?_) ?_ ?_); rotate_left 1; rfl) | ((with_reducible refine k_isx (z := ?_) ?_ ?_); rotate_left 1; rfl) | ((with_reducible refine k_fldG (fs := ?_) (d := ?_) ?_ ?_ ?_); rotate_left 2; rfl; rfl) | ((with_reducible refine kp_kix (y := ?_) ?_ ?_); rotate_left 1; rfl) | ((with_reducible refine k_ixO (ds := ?_) (d := ?_) ?_ ?_ ?_); rotate_left 2; rfl; rfl) | ((with_reducible refine k_lenS ?_ ?_); (first | omega | (simp; omega) | (with_reducible assumption) | decide)) | ((with_reducible refine k_mod ?_ ?_); (first | omega | (simp; omega) | (with_reducible assumption) | decide)) | ((with_reducible refine k_addS ?_ ?_); (first | omega | (simp; omega) | (with_reducible assumption) | decide)) | ((with_reducible refine k_mulI ?_ ?_); (first | omega | (simp; omega) | (with_reducible assumption) | decide)) | ((with_reducible refine k_addT ?_ ?_); (first | omega | (simp; omega) | (with_reducible assumption) | decide)) | ((with_reducible refine k_rep ?_ ?_); (first | omega | (simp; omega) | (with_reducible assumption) | decide)))) | ((with_reducible refine (show OkE _ _ _ from ?_)); (first | (with_reducible refine k_c ?_) | ((with_reducible refine k_v (d := ?_) ?_ ?_); rotate_left 1; rfl) | (with_reducible refine k_2 ?_) | (with_reducible refine k_1 ?_) | (with_reducible refine k_call ?_) | (with_reducible refine k_B ?_) | (with_reducible refine k_tup ?_) | (with_reducible refine k_lst ?_) | (with_reducible refine k_fld ?_) | (with_reducible refine k_new ?_) | (with_reducible refine k_sl2 ?_) | (with_reducible refine k_slL ?_) | (with_reducible refine k_slH ?_) | (with_reducible refine k_app ?_) | (with_reducible refine k_ext ?_) | (with_reducible refine k_bk ?_) | (with_reducible refine k_no ?_) | (with_reducible refine k_if ?_) | (with_reducible refine k_3B ?_) | (with_reducible refine k_m1 ?_) | (with_reducible refine k_m0 ?_) | (with_reducible refine k_cnt ?_) | (with_reducible refine k_meth ?_) | (with_reducible refine k_make ?_) | (with_reducible refine k_dget ?_) | (with_reducible refine k_dnew ?_) | (with_reducible refine k_dpop ?_))) | ((with_reducible refine (show OkS _ _ from ?_)); (first | (with_reducible refine k_seq ?_) | (with_reducible refine k_set ?_) | (with_reducible refine k_ret ?_) | (with_reducible refine k_sIf ?_) | (with_reducible refine k_for ?_) | (with_reducible refine k_forR ?_) | (with_reducible refine k_forG ?_) | (with_reducible refine k_pass ?_) | (with_reducible refine k_ex ?_) | (with_reducible refine k_retN ?_) | (with_reducible refine k_brk ?_) | (with_reducible refine k_cont ?_) | (with_reducible refine k_asg ?_) | (with_reducible refine k_setI ?_) | (with_reducible refine k_gc ?_) | (with_reducible refine k_forE ?_) | (with_reducible refine k_raise ?_) | (with_reducible refine k_tryAs ?_) | (with_reducible refine k_try ?_) | (with_reducible refine k_sFld ?_) | (with_reducible refine k_sSetD ?_) | (with_reducible refine k_sFldA ?_) | ((with_reducible refine k_aug (x := ?_) ?_ ?_); rotate_left 1; rfl) | ((with_reducible refine k_putI (ds := ?_) (k' := ?_) ?_ ?_ ?_); rotate_left 2; rfl; rfl))) | ((with_reducible refine (show OkB _ _ _ from ?_)); (first | (with_reducible refine k_tOf ?_) | (with_reducible refine k_tNo ?_) | (with_reducible refine k_tYs ?_))) | ((with_reducible refine (show OkA _ _ _ from ?_)); (first | (with_reducible refine k_aC ?_) | (with_reducible refine k_aN ?_))) | ((with_reducible refine k_bnd ?_ ?_); (first | omega | (simp; omega) | skip)) | ((with_reducible refine k_condT ?_ ?_); rfl) | ((with_reducible refine k_condF ?_ ?_); rfl) | ((with_reducible refine And.intro ?_ ?_); (first | rfl | exact Nat.le_of_ble_eq_true rfl | omega | (simp; done))) | ((with_reducible refine k_exe (w := ?_) ?_ ?_); rotate_left 1; rfl))))
/-- a pot of digits -/
structure Pot (a b : Int) : Prop where
  h1 : 0 ≤ a
  h2 : 0 ≤ b
  h3 : b < 2147483648
theorem take_ok (a b n : Int) (hn : 0 < n) (hn2 : n < 1073741824) (ha : 0 ≤ a) (hb : 0 ≤ b) (hb2 : b < 2147483648) : ∃ d a' b' : Int, m__law_take [.obj 0, .int n] [.lst [.int a, .int b]] = .ok (.int d) [.lst [.int a', .int b']] ∧ 0 ≤ d ∧ d < n ∧ 0 ≤ a' ∧ 0 ≤ b' ∧ b' < 2147483648 := by
  by_cases h : 0 < a
  · refine ⟨a % n, a / n, b, ?_, Int.emod_nonneg _ (by omega), Int.emod_lt_of_pos _ hn, Int.ediv_nonneg ha (by omega), hb, hb2⟩
    simp [m__law_take, fnD_ap, b__law_take, gIx, view, h, gMod_int hn, gFdiv_int hn hn2, putI, ixN]
  · have h1 : -18446744073709551616 < b ∧ b < 18446744073709551616 := by omega
    have h2 := Int.emod_nonneg (b * b + 104729) (show (2147483629 : Int) ≠ 0 by decide)
    have h3 := Int.emod_lt_of_pos (b * b + 104729) (show (0 : Int) < 2147483629 by decide)
    refine ⟨(b * b + 104729) % 2147483629 * 48271 % 2147483647 / 7 % n, a, (b * b + 104729) % 2147483629, ?_, Int.emod_nonneg _ (by omega), Int.emod_lt_of_pos _ hn, ha, h2, by omega⟩
    simp [m__law_take, fnD_ap, b__law_take, gIx, view, h, gMod_int hn, gMod_int, gFdiv_int, putI, ixN, gMul_int (.inl h1), gMul_int]
theorem take_s {S : Sto} {k : Nat} {a b n : Int} {Q : QE} {X : QX} (hk : S[k]? = some (.lst [.int a, .int b])) (p : Pot a b) (hn : 0 < n) (hn2 : n < 1073741824) (h : ∀ d a' b', 0 ≤ d → d < n → Pot a' b' → Q (.int d) (S.set k (.lst [.int a', .int b']))) : OkE (callS m__law_take [.obj k, .int n] S) Q X := by
  obtain ⟨d, a', b', e, h1, h2, h3, h4, h5⟩ := take_ok a b n hn hn2 p.h1 p.h2 p.h3
  refine OkE_callL hk rfl rfl rfl ?_
  simp only [List.map_cons, List.map_nil, mapO, List.idxOf_cons_self]
  rw [e]
  exact ⟨_, rfl, rfl, rfl, h d a' b' h1 h2 ⟨h3, h4, h5⟩⟩
/-- the signs of the law's texts -/
def sgs : List Nat := ("abcdefghijklmnopqrstuvwxyzABCDEFGHIJKLMNOPQRSTUVWXYZ0123456789 !#$&'()*+,-./:;<=>?\x40[]^_`{|}~\"\\" : Str).cps.toList
theorem signs_s {S : Sto} {Q : QE} {X : QX} (h : Q (.str ⟨sgs.toArray⟩) S) : OkE (callS m__law_signs [] S) Q X := by
  refine OkE_call0 rfl ?_
  have e : m__law_signs [] [] = .ok (.str ⟨sgs.toArray⟩) [] := by
    simp [m__law_signs, fnD_ap, b__law_signs, gAdd]
    rfl
  rw [e]
  exact ⟨rfl, rfl, h⟩
/-- all signs are the law's -/
def Sg (t : Str) : Prop := ∀ c ∈ t.cps.toList, c ∈ sgs
structure Txt0 (t : Str) : Prop where
  len : t.length ≤ 700
  sg : Sg t
  c : t.cps.toList.count 40 ≤ 4
theorem z_count (n : Nat) : (srep "z" n).cps.toList.count 40 = 0 := by
  rw [List.count_eq_zero]
  intro hc
  simp only [DL.srep, List.mem_flatten, List.mem_replicate] at hc
  obtain ⟨l, ⟨_, rfl⟩, hc⟩ := hc
  exact absurd hc (by decide +kernel)
theorem strOk_app {a b : Str} (h1 : PyData.strOk a = true) (h2 : PyData.strOk b = true) : PyData.strOk (a ++ b) = true := by
  unfold PyData.strOk at h1 h2 ⊢
  show (a.cps ++ b.cps).all _ = true
  rw [Array.all_append, h1, h2]; rfl
theorem strOk_of {a : Str} (h : ∀ c ∈ a.cps.toList, c < 1114112) : PyData.strOk a = true := by
  unfold PyData.strOk
  rw [Array.all_eq_true']
  intro c hc
  exact decide_eq_true (h c (Array.mem_toList_iff.mpr hc))
theorem Sg.ok {t : Str} (h : Sg t) : PyData.strOk t = true := strOk_of fun c hc => by
  have hz : ∀ z ∈ sgs, z < 1114112 := by decide +kernel
  exact hz c (h c hc)
theorem Sg.app {a b : Str} (h1 : Sg a) (h2 : Sg b) : Sg (a ++ b) := fun c hc => by
  have e : (a ++ b).cps.toList = a.cps.toList ++ b.cps.toList := by
    show (a.cps ++ b.cps).toList = _
    simp
  rw [e] at hc
  exact (List.mem_append.mp hc).elim (h1 c) (h2 c)
theorem Sg.one {j : Nat} (h : j ∈ sgs) : Sg ⟨#[j]⟩ := fun c hc => by
  rw [List.mem_singleton.mp hc]; exact h
theorem Sg.srep {a : Str} {n : Nat} (h : Sg a) : Sg (srep a n) := fun c hc => by
  simp only [DL.srep, List.mem_flatten, List.mem_replicate] at hc
  obtain ⟨l, ⟨_, rfl⟩, hc⟩ := hc
  exact h c hc
theorem strOk_srep {a : Str} {n : Nat} (h : PyData.strOk a = true) : PyData.strOk (srep a n) = true := strOk_of fun c hc => by
  unfold PyData.strOk at h
  rw [Array.all_eq_true'] at h
  simp only [srep, List.mem_flatten, List.mem_replicate] at hc
  obtain ⟨l, ⟨_, rfl⟩, hc⟩ := hc
  exact of_decide_eq_true (h c (Array.mem_toList_iff.mp hc))
theorem sgs_len : (Str.mk sgs.toArray).length = 94 := by decide
theorem sgs_le : (Str.mk sgs.toArray).length ≤ 16777216 := by rw [sgs_len]; decide
theorem text_s {S : Sto} {k : Nat} {a b : Int} {Q : QE} {X : QX} (hk : S[k]? = some (.lst [.int a, .int b])) (p : Pot a b) (h : ∀ t a' b', Txt0 t → Pot a' b' → Q (.str t) (S.set k (.lst [.int a', .int b']))) : OkE (callS m__law_text [.obj k] S) Q X := by
  refine OkE_callL hk rfl rfl rfl ?_
  simp only [List.map_cons, List.map_nil, mapO, List.idxOf_cons_self]
  refine k_fnD ?_
  unfold b__law_text
  walk_at "S"
  refine signs_s ?_
  walk_at "S"
  refine take_s rfl p (by decide) (by decide) fun d1 a1 b1 l1 u1 p1 => ?_
  walk_at "S"
  refine OkS_for (fun i e S => ∃ t x a b, e = [some (.obj 0), some (.str ⟨sgs.toArray⟩), some (.str t), x] ∧ S = [.lst [.int a, .int b]] ∧ Pot a b ∧ t.length ≤ i ∧ Sg t) (k := 0) ⟨"", none, a1, b1, rfl, rfl, p1, by decide, fun c hc => by cases hc⟩ ?_ ?_
  · rintro i d _ _ hd ⟨t, x, a, b, rfl, rfl, p, ht, hok⟩
    have hi : i < (rng 0 d1.toNat).length := (List.getElem?_eq_some_iff.mp hd).1
    rw [rng_len] at hi
    have hs := sgs_le
    refine ⟨True.intro, _, rfl, ?_⟩
    walk_at "S"
    rw [sgs_len]
    refine take_s rfl p (by decide) (by decide) fun d2 a2 b2 l2 u2 p2 => ?_
    obtain ⟨j, hj, hm⟩ := at_lt (xs := sgs) l2 (by rw [show sgs.length = 94 from by decide]; omega)
    refine k_ixS sgs_le (by rw [← hj]) ?_
    have : (Str.mk #[j]).length = 1 := sign_len j
    walk_at "S"
    exact ⟨_, _, _, _, rfl, rfl, p2, by rw [app_len]; omega, hok.app (.one hm)⟩
  · rintro _ _ ⟨t, x, a, b, rfl, rfl, p, ht, hok⟩
    rw [rng_len] at ht
    refine ⟨True.intro, ?_⟩
    walk_at "S"
    refine take_s rfl p (by decide) (by decide) fun d2 a2 b2 l2 u2 p2 => ?_
    walk_at "S"
    refine ⟨fun h7 => ?_, fun h7 => ?_⟩
    · walk_at "S"
      refine take_s rfl p2 (by decide) (by decide) fun d3 a3 b3 l3 u3 p3 => ?_
      walk_at "S"
      have hz : (srep "z" (298 + d3 - (t.length : Int)).toNat).length = (298 + d3 - (t.length : Int)).toNat := by rw [srep_length, show (Str.ofString "z").length = 1 from by decide, Nat.mul_one]
      refine k_opt (gMul_str ⟨by omega, by omega, ?_⟩) ?_
      · show _ * 1 ≤ _
        omega
      walk_at "S"
      exact ⟨⟨rfl, rfl⟩, _, rfl, rfl, rfl, h _ _ _ ⟨by rw [app_len]; omega, hok.app (.srep (by unfold Sg; decide +kernel)), by rw [app_list, List.count_append, z_count]; have := List.count_le_length (a := 40) (l := t.cps.toList); have := slen t; omega⟩ p3⟩
    · walk_at "S"
      exact ⟨⟨rfl, rfl⟩, _, rfl, rfl, rfl, h _ _ _ ⟨by omega, hok, by have := List.count_le_length (a := 40) (l := t.cps.toList); have := slen t; omega⟩ p2⟩

/-! ### values -/
def wf : Nat → D → Prop
  | _, .str x => x.length ≤ 60000
  | n + 1, .tup ds => ds.length ≤ 60000 ∧ ∀ d ∈ ds, wf n d
  | 0, .tup _ => False
  | _, .obj _ => False
  | _, .scr _ => False
  | _, .exn _ => False
  | _, .lst ds => cls ds = true
  | _, .dct _ ds => cls ds = true
  | _, _ => True
theorem cls_of {ds : List D} : (∀ d ∈ ds, cl d = true) → cls ds = true := by
  induction ds with
  | nil => intro _; rfl
  | cons d ds ih => intro h; rw [cls, h d List.mem_cons_self, ih fun z hz => h z (List.mem_cons_of_mem _ hz)]; rfl
theorem wf_cl : ∀ {n : Nat} {d : D}, wf n d → cl d = true
  | 0, .str x, _ => rfl
  | n + 1, .str x, _ => rfl
  | n + 1, .tup ds, h => cls_of fun d hd => wf_cl (h.2 d hd)
  | 0, .tup ds, h => h.elim
  | 0, .obj _, h => h.elim
  | n + 1, .obj _, h => h.elim
  | 0, .scr _, h => h.elim
  | 0, .exn _, h => h.elim
  | n + 1, .exn _, h => h.elim
  | n + 1, .scr _, h => h.elim
  | 0, .lst ds, h => h
  | n + 1, .lst ds, h => h
  | 0, .dct _ ds, h => h
  | n + 1, .dct _ ds, h => h
  | 0, .non, _ => rfl
  | 0, .bl _, _ => rfl
  | 0, .int _, _ => rfl
  | n + 1, .non, _ => rfl
  | n + 1, .bl _, _ => rfl
  | n + 1, .int _, _ => rfl
/-- is it good, its size, its depth -/
def ms : Nat → D → Bool × Int × Int
  | _, .str x => (decide ((x.length : Int) ≤ 300) && x.cps.toList.all (fun c => decide (c ∈ sgs)), x.length + 1, 1)
  | n + 1, .tup ds => (decide ((ds.length : Int) ≤ 40) && ds.all (fun d => (ms n d).1), 1 + (ds.map fun d => (ms n d).2.1).sum, 1 + maxD 0 (ds.map fun d => (ms n d).2.2))
  | _, _ => (false, 0, 0)
def mD (t : Bool × Int × Int) : D := .tup [.bl t.1, .int t.2.1, .int t.2.2]
theorem ms_str {n : Nat} {x : Str} : ms n (.str x) = (decide ((x.length : Int) ≤ 300) && x.cps.toList.all (fun c => decide (c ∈ sgs)), (x.length : Int) + 1, 1) := by cases n <;> rfl
theorem intL_map {α : Type} {f : α → Int} : ∀ l : List α, intL (l.map fun z => D.int (f z)) = some (l.map f)
  | [] => rfl
  | z :: l => by rw [List.map_cons, intL, intL_map l]; rfl
def cmp (i : Nat) : D → D
  | .tup ds => ds.getD i .non
  | _ => .non
theorem sgLb {t : Str} {S : Sto} : gLb DL.allB S [.lst ((DL.signs t).map (fun z => match z with | .str x => D.bl (decide (x.cps.getD 0 0 ∈ sgs)) | z => z))] = some (.bl (t.cps.toList.all fun c => decide (c ∈ sgs))) := by
  have := bls_map (f := fun c => decide (c ∈ sgs)) t.cps.toList
  rw [gLb_lst]
  simp only [DL.signs, List.map_map, Function.comp_def]
  rw [show (fun c => D.bl (decide ((Str.mk #[c]).cps.getD 0 0 ∈ sgs))) = fun c => D.bl (decide (c ∈ sgs)) from rfl, this]
  simp [DL.allB]
theorem meas_s : ∀ (n : Nat) (d : D), wf n d → ∀ {S : Sto} {Q : QE} {X : QX}, Q (mD (ms n d)) S → OkE (callS (m__law_measure (n + 1)) [d] S) Q X := by
  intro n
  induction n with
  | zero =>
    intro d hd S Q X h
    refine OkE_call0 (by simp [wf_cl hd]) ?_
    show OkE (fnD 6 (b__law_measure (m__law_measure 0)) [d] []) _ _
    refine k_fn0 ?_
    unfold b__law_measure
    cases d with
    | str x =>
      have hx : x.length ≤ 60000 := hd
      walk_at "S"
      refine signs_s ?_
      walk_at "S"
      refine k_anB ?_
      walk_at "S"
      refine k_lcMap (f := fun z => match z with | .str x => .bl (decide (x.cps.getD 0 0 ∈ sgs)) | z => z) ?_
      walk_at "S"
      refine ⟨by simpa [DL.signs, Str.length] using (by omega : x.length ≤ 16777216), ?_, ?_⟩
      · intro z hz
        simp only [DL.signs, List.mem_map] at hz
        obtain ⟨c, hc, rfl⟩ := hz
        refine ⟨_, rfl, ?_⟩
        walk_at "S"
        refine k_opt (d := .bl (decide (c ∈ sgs))) ?_ ?_
        · simp [gIn, sin_one]
        · exact ⟨rfl, rfl⟩
      · walk_at "S"
        refine k_opt sgLb ?_
        walk_at "S"
        exact h
    | obj _ => exact hd.elim
    | scr _ => exact hd.elim
    | exn _ => exact hd.elim
    | tup _ => exact hd.elim
    | _ =>
      walk_at "S"
      exact h
  | succ n ih =>
    intro d hd S Q X h
    refine OkE_call0 (by simp [wf_cl hd]) ?_
    show OkE (fnD 6 (b__law_measure (m__law_measure (n + 1))) [d] []) _ _
    refine k_fn0 ?_
    unfold b__law_measure
    cases d with
    | str x =>
      have hx : x.length ≤ 60000 := hd
      walk_at "S"
      refine signs_s ?_
      walk_at "S"
      refine k_anB ?_
      walk_at "S"
      refine k_lcMap (f := fun z => match z with | .str x => .bl (decide (x.cps.getD 0 0 ∈ sgs)) | z => z) ?_
      walk_at "S"
      refine ⟨by simpa [DL.signs, Str.length] using (by omega : x.length ≤ 16777216), ?_, ?_⟩
      · intro z hz
        simp only [DL.signs, List.mem_map] at hz
        obtain ⟨c, hc, rfl⟩ := hz
        refine ⟨_, rfl, ?_⟩
        walk_at "S"
        refine k_opt (d := .bl (decide (c ∈ sgs))) ?_ ?_
        · simp [gIn, sin_one]
        · exact ⟨rfl, rfl⟩
      · walk_at "S"
        refine k_opt sgLb ?_
        walk_at "S"
        exact h
    | obj _ => exact hd.elim
    | scr _ => exact hd.elim
    | exn _ => exact hd.elim
    | tup ds =>
      have hl : ds.length ≤ 60000 := hd.1
      walk_at "S"
      refine k_lcMap (f := fun z => mD (ms n z)) ?_
      walk_at "S"
      refine ⟨fun z hz => ⟨_, rfl, ?_⟩, ?_⟩
      · walk_at "S"
        refine ih z (hd.2 z hz) ?_
        exact ⟨rfl, rfl⟩
      walk_at "S"
      refine k_anB ?_
      walk_at "S"
      refine k_lcMap (f := cmp 0) ?_
      walk_at "S"
      refine ⟨by simpa using (by omega : ds.length ≤ 16777216), fun z hz => ?_, ?_⟩
      · obtain ⟨y, hy, rfl⟩ := List.mem_map.mp hz
        refine ⟨_, rfl, ?_⟩
        walk_at "S"
        exact k_ixT (ds := [.bl (ms n y).1, .int (ms n y).2.1, .int (ms n y).2.2]) rfl ⟨rfl, rfl⟩
      walk_at "S"
      refine k_opt (d := .bl (ds.all fun d => (ms n d).1)) ?_ ?_
      · have := bls_map (f := fun d => (ms n d).1) ds
        rw [gLb_lst]
        simp only [List.map_map, Function.comp_def]
        rw [show (fun x => cmp 0 (mD (ms n x))) = fun c => D.bl (ms n c).1 from rfl, this]
        simp [DL.allB]
      walk_at "S"
      refine k_lcMap (f := cmp 1) ?_
      walk_at "S"
      refine ⟨by simpa using (by omega : ds.length ≤ 16777216), fun z hz => ?_, ?_⟩
      · obtain ⟨y, hy, rfl⟩ := List.mem_map.mp hz
        refine ⟨_, rfl, ?_⟩
        walk_at "S"
        exact k_ixT (ds := [.bl (ms n y).1, .int (ms n y).2.1, .int (ms n y).2.2]) rfl ⟨rfl, rfl⟩
      walk_at "S"
      refine k_opt (d := .int (ds.map fun d => (ms n d).2.1).sum) ?_ ?_
      · have := intL_map (f := fun d => (ms n d).2.1) ds
        simp only [gSum, view_lst, List.map_map, Function.comp_def]
        rw [show (fun x => cmp 1 (mD (ms n x))) = fun c => D.int (ms n c).2.1 from rfl, this]
        rfl
      walk_at "S"
      refine k_lcMap (f := cmp 2) ?_
      walk_at "S"
      refine ⟨by simpa using (by omega : ds.length ≤ 16777216), fun z hz => ?_, ?_⟩
      · obtain ⟨y, hy, rfl⟩ := List.mem_map.mp hz
        refine ⟨_, rfl, ?_⟩
        walk_at "S"
        exact k_ixT (ds := [.bl (ms n y).1, .int (ms n y).2.1, .int (ms n y).2.2]) rfl ⟨rfl, rfl⟩
      walk_at "S"
      refine k_opt (d := .int (maxD 0 (ds.map fun d => (ms n d).2.2))) ?_ ?_
      · have := intL_map (f := fun d => (ms n d).2.2) ds
        simp only [gMaxD, view_lst, List.map_map, Function.comp_def]
        rw [show (fun x => cmp 2 (mD (ms n x))) = fun c => D.int (ms n c).2.2 from rfl, this]
        rfl
      walk_at "S"
      exact h
    | _ =>
      walk_at "S"
      exact h

/-- is it a tree? -/
def treeB (d : D) : Bool := (ms 169 d).1 && (decide ((ms 169 d).2.1 ≤ 600) && decide ((ms 169 d).2.2 ≤ 12))
theorem law_is_tree_s {d : D} (hd : wf 169 d) {S : Sto} {Q : QE} {X : QX} (h : Q (.bl (treeB d)) S) : OkE (callS m__law_is_tree [d] S) Q X := by
  refine OkE_call0 (by simp [wf_cl hd]) ?_
  unfold m__law_is_tree b__law_is_tree
  refine k_fn0 ?_
  walk_at "S"
  refine meas_s 169 d hd ?_
  refine ⟨_, rfl, ?_⟩
  walk_at "S"
  refine k_anB ?_
  walk_at "S"
  refine k_anB ?_
  walk_at "S"
  exact h
/-! ### drawn trees -/
def tr : Nat → D → Prop
  | _, .str x => x.length ≤ 1000 ∧ Sg x
  | n + 1, .tup ds => ds.length ≤ 1000 ∧ ∀ d ∈ ds, tr n d
  | _, _ => False
theorem tr_wf : ∀ {n : Nat} {d : D}, tr n d → wf n d := by
  intro n
  have st : ∀ (n : Nat) (x : Str), x.length ≤ 1000 → wf n (.str x) := fun n x h => by
    have : x.length ≤ 60000 := by omega
    cases n <;> exact this
  induction n with
  | zero => intro d h; cases d <;> first | exact st _ _ h.1 | exact h.elim
  | succ n ih =>
    intro d h
    cases d <;> first | exact st _ _ h.1 | exact h.elim | exact ⟨by have := h.1; omega, fun d hd => ih (h.2 d hd)⟩
theorem tr_mono : ∀ {n m : Nat} {d : D}, tr n d → n ≤ m → tr m d := by
  intro n
  induction n with
  | zero => intro m d h _; cases d <;> first | exact h.elim | (cases m <;> exact h)
  | succ n ih =>
    intro m d h hm
    obtain ⟨m, rfl⟩ : ∃ k, m = k + 1 := ⟨m - 1, by omega⟩
    cases d <;> first | exact h.elim | exact ⟨h.1, fun d hd => ih (h.2 d hd) (by omega)⟩ | exact h
theorem wf_mono : ∀ {n m : Nat} {d : D}, wf n d → n ≤ m → wf m d := by
  intro n
  induction n with
  | zero => intro m d h _; cases d <;> first | exact h.elim | (cases m <;> exact h)
  | succ n ih =>
    intro m d h hm
    obtain ⟨m, rfl⟩ : ∃ k, m = k + 1 := ⟨m - 1, by omega⟩
    cases d <;> first | exact h.elim | exact ⟨h.1, fun d hd => ih (h.2 d hd) (by omega)⟩ | exact h
theorem tr_cl {n : Nat} {d : D} (h : tr n d) : cl d = true := wf_cl (tr_wf h)
theorem tr_pd : ∀ {n : Nat} {d : D}, tr n d → ∃ p, pd d = some p ∧ p.canLay0 = true ∧ p.depth ≤ n := by
  intro n
  induction n with
  | zero => intro d h; cases d <;> first | exact h.elim | exact ⟨_, rfl, h.2.ok, Nat.le_refl _⟩
  | succ n ih =>
    intro d h
    cases d with
    | str x => exact ⟨_, rfl, h.2.ok, Nat.zero_le _⟩
    | tup ds =>
      have : ∀ ds : List D, (∀ d ∈ ds, tr n d) → ∃ ps, pds ds = some ps ∧ PyData.canLayAll0 ps = true ∧ PyData.depthAll ps ≤ n := by
        intro ds
        induction ds with
        | nil => intro _; exact ⟨[], rfl, rfl, Nat.zero_le _⟩
        | cons d ds ih2 =>
          intro h
          obtain ⟨p, h1, h2, h3⟩ := ih (h d List.mem_cons_self)
          obtain ⟨ps, h4, h5, h6⟩ := ih2 fun z hz => h z (List.mem_cons_of_mem _ hz)
          refine ⟨p :: ps, by rw [pds, h1, h4], by simp only [PyData.canLayAll0, h2, h5]; rfl, ?_⟩
          simp only [PyData.depthAll]; omega
      obtain ⟨ps, h1, h2, h3⟩ := this ds h.2
      exact ⟨.tuple ps, by rw [pd, h1]; rfl, h2, by simp only [PyData.depth]; omega⟩
    | _ => exact h.elim
theorem eq_nil {n : Nat} {ds : List D} (h : tr n (.tup ds)) (hn : n ≤ 64) {S : Sto} : gEq S (.tup ds) (.tup []) = some (.bl ds.isEmpty) := by
  obtain ⟨p, h1, h2, h3⟩ := tr_pd h
  have h4 : SeqAt.shaped p = true := by unfold SeqAt.shaped; rw [h2, decide_eq_true (by omega)]; rfl
  have h5 : ∃ ps, p = .tuple ps ∧ (ps.isEmpty = ds.isEmpty) := by
    rw [pd] at h1
    cases q : pds ds with
    | none => rw [q] at h1; cases h1
    | some ps =>
      rw [q] at h1
      cases h1
      refine ⟨ps, rfl, ?_⟩
      cases ds with
      | nil => cases q; rfl
      | cons d ds =>
        rw [pds] at q
        split at q
        · cases q; rfl
        · cases q
  obtain ⟨ps, rfl, h6⟩ := h5
  have h7 : PyData.eqv (.tuple ps) (.tuple []) = ds.isEmpty := by
    rw [← h6]
    cases ps <;> simp [PyData.eqv, PyData.eqvAll]
  have h8 : SeqAt.shaped (.tuple []) = true := rfl
  simp [gEq, deq, fla, deq0, h1, h4, pd, pds, h7, h8]
/-! ### how many brackets -/
mutual
def pc : D → Nat
  | .str x => x.cps.toList.count 40
  | .tup ds => 1 + pcs ds
  | _ => 0
def pcs : List D → Nat
  | [] => 0
  | d :: ds => pc d + pcs ds
end
theorem pcs_le {k : Nat} : ∀ {ds : List D}, (∀ d ∈ ds, pc d ≤ k) → pcs ds ≤ ds.length * k
  | [], _ => Nat.zero_le _
  | d :: ds, h => by
    have h1 := h d (by simp)
    have h2 := pcs_le (ds := ds) fun z hz => h z (by simp [hz])
    rw [pcs, List.length_cons, Nat.succ_mul]
    omega
theorem pc_mem : ∀ {ds : List D} {d : D}, d ∈ ds → pc d ≤ pcs ds
  | e :: ds, d, h => by
    rw [pcs]
    rcases List.mem_cons.mp h with rfl | h
    · omega
    · have := pc_mem h
      omega
def PB : Nat → Nat
  | 0 => 4
  | n + 1 => max (3 * PB n + 1) (PB n + 12)
theorem PB_4 : ∀ n, 4 ≤ PB n
  | 0 => Nat.le_refl _
  | n + 1 => by have := PB_4 n; show 4 ≤ max _ _; omega
theorem PB_up (n : Nat) : 3 * PB n + 1 ≤ PB (n + 1) ∧ PB n + 12 ≤ PB (n + 1) := by
  constructor
  · exact Nat.le_max_left _ _
  · exact Nat.le_max_right _ _
theorem tree_s : ∀ (f : Nat) (deep : Nat), deep < f → ∀ {S : Sto} {k : Nat} {a b : Int} {Q : QE} {X : QX}, S[k]? = some (.lst [.int a, .int b]) → Pot a b → (∀ d a' b', tr (14 * deep) d → pc d ≤ PB deep → Pot a' b' → Q d (S.set k (.lst [.int a', .int b']))) → OkE (callS (m__law_tree f) [.obj k, .int deep] S) Q X := by
  intro f
  induction f with
  | zero => intro deep h; omega
  | succ f ih =>
    intro deep hf S k a b Q X hk p h
    refine OkE_callL hk rfl rfl rfl ?_
    simp only [List.map_cons, List.map_nil, mapO, List.idxOf_cons_self]
    show OkE (fnD 5 (b__law_tree (m__law_tree f)) _ _) _ _
    refine k_fnD ?_
    unfold b__law_tree
    walk_at "S"
    refine take_s rfl p (by decide) (by decide) fun d1 a1 b1 l1 u1 p1 => ?_
    walk_at "S"
    refine k_tOB ?_
    walk_at "S"
    by_cases hc : (deep : Int) = 0 ∨ d1 < 3
    · refine k_condT (by simpa using hc) ?_
      walk_at "S"
      refine text_s rfl p1 fun t a2 b2 ht p2 => ?_
      exact ⟨⟨rfl, rfl⟩, _, rfl, rfl, rfl, h _ _ _ (tr_mono (n := 0) ⟨by have := ht.len; omega, ht.sg⟩ (by omega)) (Nat.le_trans ht.c (PB_4 _)) p2⟩
    refine k_condF (by simpa using hc) ?_
    obtain ⟨dp, rfl⟩ : ∃ j, deep = j + 1 := ⟨deep - 1, by omega⟩
    have hdp : (((dp + 1 : Nat) : Int) - 1) = (dp : Int) := by omega
    walk_at "S"
    refine k_dec (fun h6 => ?_) fun h6 => ?_
    · walk_at "S"
      rw [hdp]
      refine ih dp (by omega) rfl p1 fun d2 a2 b2 t2 c2 p2 => ?_
      walk_at "S"
      refine take_s rfl p2 (by decide) (by decide) fun d3 a3 b3 l3 u3 p3 => ?_
      walk_at "S"
      refine OkS_for (fun i e S => ∃ t x, e = [some (.obj 0), some (.int ((dp + 1 : Nat) : Int)), some (.int d1), some t, x] ∧ S = [.lst [.int a3, .int b3]] ∧ tr (14 * dp + i) t ∧ pc t ≤ PB dp + i) (k := 0) ⟨d2, none, rfl, rfl, t2, c2⟩ ?_ ?_
      · rintro i d _ _ hd ⟨t, x, rfl, rfl, ht, hpc⟩
        refine ⟨True.intro, _, rfl, ?_⟩
        walk_at "S"
        exact ⟨_, _, rfl, rfl, by
          rw [show 14 * dp + (0 + i + 1) = (14 * dp + (0 + i)) + 1 by omega]
          exact ⟨by simp, fun z hz => by rw [List.mem_singleton.mp hz]; exact ht⟩, by show 1 + (pc t + 0) ≤ _; omega⟩
      · rintro _ _ ⟨t, x, rfl, rfl, ht, hpc⟩
        rw [rng_len] at ht hpc
        have hup := (PB_up dp).2
        refine ⟨True.intro, ?_⟩
        walk_at "S"
        have hc := tr_cl ht
        have hs : ∀ S, still 1 S t = t := fun S => by cases t <;> first | rfl | (cases hc; done)
        have hl : low 1 t = true := cl_low hc
        show (low 1 (still 1 _ t) = true ∧ _) ∧ _
        simp only [List.length_singleton, hs]
        exact ⟨⟨hl, rfl⟩, _, rfl, rfl, hc, h _ _ _ (tr_mono ht (by omega)) (by omega) p3⟩
    · walk_at "S"
      refine k_lcG ?_
      walk_at "S"
      refine take_s rfl p1 (by decide) (by decide) fun d2 a2 b2 l2 u2 p2 => ?_
      walk_at "S"
      refine ⟨0, d2.toNat, by simp [rgs]; omega, ?_⟩
      refine OkE_lc (fun i acc S => ∃ a b, S = [.lst [.int a, .int b]] ∧ Pot a b ∧ acc.length = i ∧ (∀ d ∈ acc, tr (14 * dp) d) ∧ ∀ d ∈ acc, pc d ≤ PB dp) (k := 0) ⟨a2, b2, rfl, p2, rfl, (fun d hd => by cases hd), fun d hd => by cases hd⟩ (by rw [rng_len]; simp; omega) ?_ ?_
      · rintro i d acc _ hd ⟨a, b, rfl, p, hl, hall, hcs⟩
        refine ⟨True.intro, _, rfl, ?_⟩
        walk_at "S"
        refine ⟨fun _ => ?_, fun z => by cases z⟩
        walk_at "S"
        rw [hdp]
        refine ih dp (by omega) rfl p fun d3 a3 b3 t3 c3 p3 => ?_
        refine ⟨_, _, rfl, p3, by rw [List.length_append, hl]; rfl, fun d hd => ?_, fun d hd => ?_⟩
        · rcases List.mem_append.mp hd with hd | hd
          · exact hall d hd
          · rw [List.mem_singleton.mp hd]; exact t3
        · rcases List.mem_append.mp hd with hd | hd
          · exact hcs d hd
          · rw [List.mem_singleton.mp hd]; exact c3
      · rintro acc _ ⟨a, b, rfl, p, hl, hall, hcs⟩
        rw [rng_len] at hl
        refine ⟨True.intro, ?_⟩
        walk_at "S"
        have ht : tr (14 * dp + 1) (.tup acc) := ⟨by omega, hall⟩
        have hc := tr_cl ht
        have hl : low 1 (.tup acc) = true := cl_low hc
        exact ⟨⟨hl, rfl⟩, _, rfl, rfl, hc, h _ _ _ (tr_mono ht (by omega)) (by have h1 := pcs_le hcs; have h2 := (PB_up dp).1; have h3 : acc.length * PB dp ≤ 3 * PB dp := Nat.mul_le_mul_right _ (by omega); show 1 + pcs acc ≤ _; omega) p⟩
end Law

namespace Law
open PySem PySem.Spec PyProof.Rows L2 DL
/-! ### texts of trees -/
theorem str_ext {x y : Str} (h : x.cps.toList = y.cps.toList) : x = y := by
  cases x; cases y
  exact congrArg Str.mk (Array.toList_inj.mp h)
def esc1 (c : Nat) : List Nat := if c = 92 then [92, 92] else if c = 34 then [92, 34] else [c]
def esc (x : List Nat) : List Nat := x.flatMap esc1
mutual
def tt : D → List Nat
  | .str x => 34 :: (esc x.cps.toList ++ [34])
  | .tup ds => 40 :: (tts ds ++ [41])
  | _ => []
def tts : List D → List Nat
  | [] => []
  | d :: ds => tt d ++ ttr ds
def ttr : List D → List Nat
  | [] => []
  | d :: ds => 32 :: (tt d ++ ttr ds)
end
theorem esc_inj : ∀ {x y l m : List Nat}, esc x ++ 34 :: l = esc y ++ 34 :: m → x = y ∧ l = m
  | [], [], l, m, h => by simpa [esc] using h
  | [], y :: ys, l, m, h => by
    simp only [esc, List.flatMap_nil, List.flatMap_cons, List.nil_append, esc1] at h
    split at h
    · simp at h
    · split at h
      · simp at h
      · simp at h; omega
  | x :: xs, [], l, m, h => by
    simp only [esc, List.flatMap_nil, List.flatMap_cons, List.nil_append, esc1] at h
    split at h
    · simp at h
    · split at h
      · simp at h
      · simp at h; omega
  | x :: xs, y :: ys, l, m, h => by
    have key : x = y ∧ esc xs ++ 34 :: l = esc ys ++ 34 :: m := by
      simp only [esc, List.flatMap_cons, esc1] at h ⊢
      split at h
      · split at h
        · simp at h; exact ⟨by omega, h⟩
        · split at h
          · simp at h
          · simp at h; omega
      · split at h
        · split at h
          · simp at h
          · split at h
            · simp at h; exact ⟨by omega, h⟩
            · simp at h; omega
        · split at h
          · simp at h; omega
          · split at h
            · simp at h; omega
            · simp at h; exact h
    obtain ⟨h1, h2⟩ := key
    obtain ⟨h3, h4⟩ := esc_inj h2
    exact ⟨by rw [h1, h3], h4⟩
theorem tt_head : ∀ {n : Nat} {d : D}, tr n d → ∃ c r, tt d = c :: r ∧ (c = 34 ∨ c = 40)
  | 0, .str x, _ => ⟨34, _, rfl, .inl rfl⟩
  | n + 1, .str x, _ => ⟨34, _, rfl, .inl rfl⟩
  | n + 1, .tup ds, _ => ⟨40, _, rfl, .inr rfl⟩
  | 0, .tup ds, h => h.elim
  | 0, .obj _, h => h.elim
  | n + 1, .obj _, h => h.elim
  | 0, .scr _, h => h.elim
  | n + 1, .scr _, h => h.elim
  | 0, .lst ds, h => h.elim
  | n + 1, .lst ds, h => h.elim
  | 0, .dct _ ds, h => h.elim
  | n + 1, .dct _ ds, h => h.elim
  | 0, .non, h => h.elim
  | 0, .bl _, h => h.elim
  | 0, .int _, h => h.elim
  | n + 1, .non, h => h.elim
  | n + 1, .bl _, h => h.elim
  | n + 1, .int _, h => h.elim
theorem tt_inj : ∀ (n : Nat) (a b : D), tr n a → tr n b → ∀ l m, tt a ++ l = tt b ++ m → a = b ∧ l = m := by
  intro n
  induction n with
  | zero =>
    intro a b ha hb l m h
    cases a <;> cases b <;> first | exact ha.elim | exact hb.elim | skip
    simp only [tt, List.cons_append, List.cons.injEq, true_and, List.append_assoc, List.nil_append] at h
    obtain ⟨h1, h2⟩ := esc_inj h
    exact ⟨by rw [str_ext h1], h2⟩
  | succ n ih =>
    have rest : ∀ ds es : List D, (∀ d ∈ ds, tr n d) → (∀ d ∈ es, tr n d) → ∀ l m, ttr ds ++ 41 :: l = ttr es ++ 41 :: m → ds = es ∧ l = m := by
      intro ds
      induction ds with
      | nil =>
        intro es _ _ l m h
        cases es with
        | nil => simpa [ttr] using h
        | cons e es => simp [ttr] at h
      | cons d ds ih2 =>
        intro es h1 h2 l m h
        cases es with
        | nil => simp [ttr] at h
        | cons e es =>
          simp only [ttr, List.cons_append, List.cons.injEq, true_and, List.append_assoc] at h
          obtain ⟨h3, h4⟩ := ih d e (h1 d (by simp)) (h2 e (by simp)) _ _ h
          obtain ⟨h5, h6⟩ := ih2 es (fun z hz => h1 z (by simp [hz])) (fun z hz => h2 z (by simp [hz])) l m h4
          exact ⟨by rw [h3, h5], h6⟩
    intro a b ha hb l m h
    cases a <;> cases b <;> first | exact False.elim ha | exact False.elim hb | skip
    · simp only [tt, List.cons_append, List.cons.injEq, true_and, List.append_assoc, List.nil_append] at h
      obtain ⟨h1, h2⟩ := esc_inj h
      exact ⟨by rw [str_ext h1], h2⟩
    · simp [tt] at h
    · simp [tt] at h
    · rename_i ds es
      simp only [tt, List.cons_append, List.cons.injEq, true_and, List.append_assoc, List.nil_append] at h
      have hd := ha.2
      have he := hb.2
      cases ds with
      | nil =>
        cases es with
        | nil => simpa [tts] using h
        | cons e es =>
          obtain ⟨c, r, h1, h2⟩ := tt_head (he e (by simp))
          simp only [tts, List.nil_append, h1, List.cons_append, List.append_assoc, List.cons.injEq] at h
          omega
      | cons d ds =>
        cases es with
        | nil =>
          obtain ⟨c, r, h1, h2⟩ := tt_head (hd d (by simp))
          simp only [tts, List.nil_append, h1, List.cons_append, List.append_assoc, List.cons.injEq] at h
          omega
        | cons e es =>
          simp only [tts, List.append_assoc] at h
          obtain ⟨h3, h4⟩ := ih d e (hd d (by simp)) (he e (by simp)) _ _ h
          obtain ⟨h5, h6⟩ := rest ds es (fun z hz => hd z (by simp [hz])) (fun z hz => he z (by simp [hz])) l m h4
          exact ⟨by rw [h3, h5], h6⟩
theorem tt_eq {n : Nat} {a b : D} (ha : tr n a) (hb : tr n b) : tt a = tt b ↔ a = b :=
  ⟨fun h => (tt_inj n a b ha hb [] [] (by rw [h])).1, fun h => by rw [h]⟩
end Law

namespace Law
open PySem PySem.Spec PyProof.Rows L2 DL
local macro_rules | `(tactic| walk_at "S") => `(tactic| (repeat (first | ((with_reducible refine (show OkE (opt _ _) _ _ from ?_)); (first | (with_reducible refine k_addI ?_) | (with_reducible refine k_subI ?_) | (with_reducible refine k_eqI ?_) | (with_reducible refine k_neI ?_) | (with_reducible refine k_ltI ?_) | (with_reducible refine k_leI ?_) | (with_reducible refine k_gtI ?_) | (with_reducible refine k_geI ?_) | (with_reducible refine k_eqS ?_) | (with_reducible refine k_neS ?_) | (with_reducible refine k_lenT ?_) | (with_reducible refine k_lenL ?_) | (with_reducible refine k_lenC ?_) | (with_reducible refine k_tupT ?_) | (with_reducible refine k_tupL ?_) | (with_reducible refine k_lstL ?_) | (with_reducible refine k_lstC ?_) | (with_reducible refine k_lstT ?_) | (with_reducible refine k_ltS ?_) | (with_reducible refine k_min2 ?_) | (with_reducible refine k_eqB ?_) | (with_reducible refine k_neB ?_) | (with_reducible refine k_slT ?_) | (with_reducible refine k_slL' ?_) | (with_reducible refine k_slC ?_) | (with_reducible refine k_strS ?_) | (with_reducible refine k_intI ?_) | (with_reducible refine k_intB ?_) | (with_reducible refine k_max2 ?_) | (with_reducible refine k_isxN ?_) | (with_reducible refine kp_kin ?_) | (with_reducible refine k_inT2 ?_) | (with_reducible refine k_inT3 ?_) | (with_reducible refine k_inT4 ?_) | (with_reducible refine k_inL2 ?_) | (with_reducible refine k_inL3 ?_) | (with_reducible refine k_inL4 ?_) | (with_reducible refine k_neg ?_) | ((with_reducible refine k_lenO (ds := ?_) ?_ ?_); rotate_left 1; rfl) | ((with_reducible refine k_tupO (ds := ?_) ?_ ?_); rotate_left 1; rfl) | ((with_reducible refine k_isi (t := ?_) ?_ ?_); rotate_left 1; rfl) | ((with_reducible refine k_is (z := ?_) ?_ ?_); rotate_left 1; rfl) | ((with_reducible refine k_isn (z := ?_) ?_ ?_); rotate_left 1; rfl) | ((with_reducible refine k_ixT (d := ?_) ?_ ?_); rotate_left 1; rfl) | ((with_reducible refine k_ixL (d := ?_) ?_ ?_); rotate_left 1; rfl) | ((with_reducible refine k_isx (z := ?_) ?_ ?_); rotate_left 1; rfl) | ((with_reducible refine k_fldG (fs := ?_) (d := ?_) ?_ ?_ ?_); rotate_left 2; rfl; rfl) | ((with_reducible refine kp_kix (y := ?_) ?_ ?_); rotate_left 1; rfl) | ((with_reducible refine k_ixO (ds := ?_) (d := ?_) ?_ ?_ ?_); rotate_left 2; rfl; rfl) | ((with_reducible refine k_lenS ?_ ?_); (first | omega | (simp; omega) | (with_reducible assumption) | decide)) | ((with_reducible refine k_mod ?_ ?_); (first | omega | (simp; omega) | (with_reducible assumption) | decide)) | ((with_reducible refine k_addS ?_ ?_); (first | omega | (simp; omega) | (with_reducible assumption) | decide)) | ((with_reducible refine k_mulI ?_ ?_); (first | omega | (simp; omega) | (with_reducible assumption) | decide)) | ((with_reducible refine k_addT ?_ ?_); (first | omega | (simp; omega) | (with_reducible assumption) | decide)) | ((with_reducible refine k_rep ?_ ?_); (first | omega | (simp; omega) | (with_reducible assumption) | decide)))) | ((with_reducible refine (show OkE _ _ _ from ?_)); (first | (with_reducible refine k_c ?_) | ((with_reducible refine k_v (d := ?_) ?_ ?_); rotate_left 1; rfl) | (with_reducible refine k_2 ?_) | (with_reducible refine k_1 ?_) | (with_reducible refine k_call ?_) | (with_reducible refine k_B ?_) | (with_reducible refine k_tup ?_) | (with_reducible refine k_lst ?_) | (with_reducible refine k_fld ?_) | (with_reducible refine k_new ?_) | (with_reducible refine k_sl2 ?_) | (with_reducible refine k_slL ?_) | (with_reducible refine k_slH ?_) | (with_reducible refine k_app ?_) | (with_reducible refine k_ext ?_) | (with_reducible refine k_bk ?_) | (with_reducible refine k_no ?_) | (with_reducible refine k_if ?_) | (with_reducible refine k_3B ?_) | (with_reducible refine k_m1 ?_) | (with_reducible refine k_m0 ?_) | (with_reducible refine k_cnt ?_) | (with_reducible refine k_meth ?_) | (with_reducible refine k_make ?_) | (with_reducible refine k_dget ?_) | (with_reducible refine k_dnew ?_) | (with_reducible refine k_dpop ?_))) | ((with_reducible refine (show OkS _ _ from ?_)); (first | (with_reducible refine k_seq ?_) | (with_reducible refine k_set ?_) | (with_reducible refine k_ret ?_) | (with_reducible refine k_sIf ?_) | (with_reducible refine k_for ?_) | (with_reducible refine k_forR ?_) | (with_reducible refine k_forG ?_) | (with_reducible refine k_pass ?_) | (with_reducible refine k_ex ?_) | (with_reducible refine k_retN ?_) | (with_reducible refine k_brk ?_) | (with_reducible refine k_cont ?_) | (with_reducible refine k_asg ?_) | (with_reducible refine k_setI ?_) | (with_reducible refine k_gc ?_) | (with_reducible refine k_forE ?_) | (with_reducible refine k_raise ?_) | (with_reducible refine k_tryAs ?_) | (with_reducible refine k_try ?_) | (with_reducible refine k_sFld ?_) | (with_reducible refine k_sSetD ?_) | (with_reducible refine k_sFldA ?_) | ((with_reducible refine k_aug (x := ?_) ?_ ?_); rotate_left 1; rfl) | ((with_reducible refine k_putI (ds := ?_) (k' := ?_) ?_ ?_ ?_); rotate_left 2; rfl; rfl))) | ((with_reducible refine (show OkB _ _ _ from ?_)); (first | (with_reducible refine k_tOf ?_) | (with_reducible refine k_tNo ?_) | (with_reducible refine k_tYs ?_))) | ((with_reducible refine (show OkA _ _ _ from ?_)); (first | (with_reducible refine k_aC ?_) | (with_reducible refine k_aN ?_))) | ((with_reducible refine k_bnd ?_ ?_); (first | omega | (simp; omega) | skip)) | ((with_reducible refine k_condT ?_ ?_); rfl) | ((with_reducible refine k_condF ?_ ?_); rfl) | ((with_reducible refine And.intro ?_ ?_); (first | rfl | exact Nat.le_of_ble_eq_true rfl | omega | (simp; done))) | ((with_reducible refine k_exe (w := ?_) ?_ ?_); rotate_left 1; rfl))))
/-! ### texts -/
theorem esc_rep (x : Str) : (Txt.replace (Txt.replace x "\\" "\\\\") "\"" "\\\"").cps.toList = esc x.cps.toList := by
  have h1 : ("\\" : Str).cps.toList = [92] := rfl
  have h2 : ("\\\\" : Str).cps.toList = [92, 92] := rfl
  have h3 : ("\"" : Str).cps.toList = [34] := rfl
  have h4 : ("\\\"" : Str).cps.toList = [92, 34] := rfl
  rw [StrLaws.replace_list (by decide), StrLaws.replace_list (by decide), h1, h2, h3, h4, repl1, repl1, List.flatMap_assoc]
  unfold esc
  congr 1
  funext c
  unfold esc1
  by_cases a1 : c = 92
  · subst a1; rfl
  · by_cases a2 : c = 34
    · subst a2; rfl
    · simp [a1, a2]
theorem flat_len {f : Nat → List Nat} (hf : ∀ c, (f c).length ≤ 2) : ∀ x : List Nat, (x.flatMap f).length ≤ 2 * x.length
  | [] => Nat.le_refl _
  | c :: r => by
    have := flat_len hf r
    have := hf c
    rw [List.flatMap_cons, List.length_append, List.length_cons]; omega
theorem rep_len (x : Str) : (Txt.replace x "\\" "\\\\").length ≤ 2 * x.length := by
  rw [slen, slen, StrLaws.replace_list (by decide), show ("\\" : Str).cps.toList = [92] from rfl, show ("\\\\" : Str).cps.toList = [92, 92] from rfl, repl1]
  exact flat_len (fun c => by split <;> simp) _
theorem esc_len (x : List Nat) : (esc x).length ≤ 2 * x.length := flat_len (fun c => by unfold esc1; split <;> (try split) <;> simp) x
theorem text_str (r : MF) {x : Str} (hx : x.length ≤ 1000) {Q : QE} {X : QX} (h : Q (.str ⟨(tt (.str x)).toArray⟩) []) : OkE (fnD 2 (b_tree_text r) [.str x] []) Q X := by
  refine k_fn0 ?_
  unfold b_tree_text
  have h1 : ("\\\\" : Str).length = 2 := rfl
  have h2 : ("\\\"" : Str).length = 2 := rfl
  have h3 : ("\"" : Str).length = 1 := rfl
  have h4 := rep_len x
  have h5 : (Txt.replace (Txt.replace x "\\" "\\\\") "\"" "\\\"").length ≤ 2 * x.length := by
    rw [slen, esc_rep, slen]
    exact esc_len _
  walk_at "S"
  refine k_rep (by rw [h1]; omega) ?_
  refine k_rep (by rw [h2]; omega) ?_
  refine k_addS (by rw [h3]; omega) ?_
  walk_at "S"
  have e : "\"" ++ Txt.replace (Txt.replace x "\\" "\\\\") "\"" "\\\"" ++ "\"" = (⟨(tt (.str x)).toArray⟩ : Str) := by
    refine str_ext ?_
    rw [app_list, app_list, esc_rep]
    rfl
  rw [e]
  exact h
theorem ttr_sum : ∀ ds : List D, ((ds.map fun d => (Str.mk (tt d).toArray)).map (·.length)).sum + ds.length = (ttr ds).length
  | [] => rfl
  | d :: ds => by
    have := ttr_sum ds
    have h1 : (Str.mk (tt d).toArray).length = (tt d).length := by rw [slen]
    rw [List.map_cons, List.map_cons, List.sum_cons, List.length_cons, ttr, List.length_cons, List.length_append, ← this, h1]
    omega
theorem ttr_mem : ∀ {ds : List D} {d : D}, d ∈ ds → (tt d).length + 1 ≤ (ttr ds).length
  | e :: ds, d, h => by
    rw [ttr, List.length_cons, List.length_append]
    rcases List.mem_cons.mp h with rfl | h
    · omega
    · have := ttr_mem h
      omega
theorem tts_len : ∀ ds : List D, (ttr ds).length ≤ (tts ds).length + 1
  | [] => Nat.zero_le _
  | d :: ds => by rw [tts, ttr, List.length_cons, List.length_append]; exact Nat.le_refl _
theorem join_tts (ds : List D) : (Txt.join " " (ds.map fun d => (Str.mk (tt d).toArray))).cps.toList = tts ds := by
  cases ds with
  | nil => rfl
  | cons d ds =>
    rw [List.map_cons, join_cons]
    have h1 : (" " : Str).cps.toList = [32] := rfl
    rw [h1]
    have : ∀ ds : List D, StrLaws.glueL [32] (ds.map fun d => (Str.mk (tt d).toArray)) = ttr ds := by
      intro ds
      induction ds with
      | nil => rfl
      | cons d ds ih => rw [List.map_cons, StrLaws.glueL, ih]; rfl
    rw [StrLaws.glueT, this]
    rfl
theorem text_tree_s : ∀ (n : Nat) (d : D), tr n d → (tt d).length ≤ 1000000 → ∀ {S : Sto} {Q : QE} {X : QX}, Q (.str ⟨(tt d).toArray⟩) S → OkE (callS (m_tree_text (n + 1)) [d] S) Q X := by
  intro n
  induction n with
  | zero =>
    intro d hd hl S Q X h
    refine OkE_call0 (by simp [tr_cl hd]) ?_
    cases d <;> first | exact hd.elim | skip
    exact text_str _ hd.1 ⟨rfl, rfl, h⟩
  | succ n ih =>
    intro d hd hl S Q X h
    refine OkE_call0 (by simp [tr_cl hd]) ?_
    cases d <;> first | exact False.elim hd | skip
    · exact text_str _ hd.1 ⟨rfl, rfl, h⟩
    · rename_i ds
      show OkE (fnD 2 (b_tree_text (m_tree_text (n + 1))) [.tup ds] []) _ _
      refine k_fn0 ?_
      unfold b_tree_text
      have hl2 : (tts ds).length + 2 ≤ 1000000 := by
        rw [tt, List.length_cons, List.length_append] at hl
        simpa using hl
      have hl3 := tts_len ds
      have hl4 := ttr_sum ds
      have hl5 := hd.1
      walk_at "S"
      refine k_lcMap (f := fun d => .str ⟨(tt d).toArray⟩) ?_
      walk_at "S"
      refine ⟨fun z hz => ⟨_, rfl, ?_⟩, ?_⟩
      · walk_at "S"
        have := ttr_mem hz
        refine ih z (hd.2 z hz) (by omega) ?_
        exact ⟨rfl, rfl⟩
      have h1 : (" " : Str).length = 1 := rfl
      have h2 : ("(" : Str).length = 1 := rfl
      have h3 : (")" : Str).length = 1 := rfl
      refine k_joinL (strL_map ds) (by rw [h1, List.length_map]; omega) ?_
      have hj := join_tts ds
      have hjl : (Txt.join " " (ds.map fun d => (Str.mk (tt d).toArray))).length = (tts ds).length := by rw [slen, hj]
      refine k_addS (by rw [h2, hjl]; omega) ?_
      walk_at "S"
      have e : "(" ++ Txt.join " " (ds.map fun d => (Str.mk (tt d).toArray)) ++ ")" = (⟨(tt (.tup ds)).toArray⟩ : Str) := by
        refine str_ext ?_
        rw [app_list, app_list, hj]
        rfl
      rw [e]
      exact h
end Law

namespace Law
open PySem PySem.Spec PyProof.Rows L2 DL
local macro_rules | `(tactic| walk_at "S") => `(tactic| (repeat (first | ((with_reducible refine (show OkE (opt _ _) _ _ from ?_)); (first | (with_reducible refine k_addI ?_) | (with_reducible refine k_subI ?_) | (with_reducible refine k_eqI ?_) | (with_reducible refine k_neI ?_) | (with_reducible refine k_ltI ?_) | (with_reducible refine k_leI ?_) | (with_reducible refine k_gtI ?_) | (with_reducible refine k_geI ?_) | (with_reducible refine k_eqS ?_) | (with_reducible refine k_neS ?_) | (with_reducible refine k_lenT ?_) | (with_reducible refine k_lenL ?_) | (with_reducible refine k_lenC ?_) | (with_reducible refine k_tupT ?_) | (with_reducible refine k_tupL ?_) | (with_reducible refine k_lstL ?_) | (with_reducible refine k_lstC ?_) | (with_reducible refine k_lstT ?_) | (with_reducible refine k_ltS ?_) | (with_reducible refine k_min2 ?_) | (with_reducible refine k_eqB ?_) | (with_reducible refine k_neB ?_) | (with_reducible refine k_slT ?_) | (with_reducible refine k_slL' ?_) | (with_reducible refine k_slC ?_) | (with_reducible refine k_strS ?_) | (with_reducible refine k_intI ?_) | (with_reducible refine k_intB ?_) | (with_reducible refine k_max2 ?_) | (with_reducible refine k_isxN ?_) | (with_reducible refine kp_kin ?_) | (with_reducible refine k_inT2 ?_) | (with_reducible refine k_inT3 ?_) | (with_reducible refine k_inT4 ?_) | (with_reducible refine k_inL2 ?_) | (with_reducible refine k_inL3 ?_) | (with_reducible refine k_inL4 ?_) | (with_reducible refine k_neg ?_) | ((with_reducible refine k_lenO (ds := ?_) ?_ ?_); rotate_left 1; rfl) | ((with_reducible refine k_tupO (ds := ?_) ?_ ?_); rotate_left 1; rfl) | ((with_reducible refine k_isi (t := ?_) ?_ ?_); rotate_left 1; rfl) | ((with_reducible refine k_is (z := ?_) ?_ ?_); rotate_left 1; rfl) | ((with_reducible refine k_isn (z := ?_) ?_ ?_); rotate_left 1; rfl) | ((with_reducible refine k_ixT (d := ?_) ?_ ?_); rotate_left 1; rfl) | ((with_reducible refine k_ixL (d := ?_) ?_ ?_); rotate_left 1; rfl) | ((with_reducible refine k_isx (z := ?_) ?_ ?_); rotate_left 1; rfl) | ((with_reducible refine k_fldG (fs := ?_) (d := ?_) ?_ ?_ ?_); rotate_left 2; rfl; rfl) | ((with_reducible refine kp_kix (y := ?_) ?_ ?_); rotate_left 1; rfl) | ((with_reducible refine k_ixO (ds := ?_) (d := ?_) ?_ ?_ ?_); rotate_left 2; rfl; rfl) | ((with_reducible refine k_lenS ?_ ?_); (first | omega | (simp; omega) | (with_reducible assumption) | decide)) | ((with_reducible refine k_mod ?_ ?_); (first | omega | (simp; omega) | (with_reducible assumption) | decide)) | ((with_reducible refine k_addS ?_ ?_); (first | omega | (simp; omega) | (with_reducible assumption) | decide)) | ((with_reducible refine k_mulI ?_ ?_); (first | omega | (simp; omega) | (with_reducible assumption) | decide)) | ((with_reducible refine k_addT ?_ ?_); (first | omega | (simp; omega) | (with_reducible assumption) | decide)) | ((with_reducible refine k_rep ?_ ?_); (first | omega | (simp; omega) | (with_reducible assumption) | decide)))) | ((with_reducible refine (show OkE _ _ _ from ?_)); (first | (with_reducible refine k_c ?_) | ((with_reducible refine k_v (d := ?_) ?_ ?_); rotate_left 1; rfl) | (with_reducible refine k_2 ?_) | (with_reducible refine k_1 ?_) | (with_reducible refine k_call ?_) | (with_reducible refine k_B ?_) | (with_reducible refine k_tup ?_) | (with_reducible refine k_lst ?_) | (with_reducible refine k_fld ?_) | (with_reducible refine k_new ?_) | (with_reducible refine k_sl2 ?_) | (with_reducible refine k_slL ?_) | (with_reducible refine k_slH ?_) | (with_reducible refine k_app ?_) | (with_reducible refine k_ext ?_) | (with_reducible refine k_bk ?_) | (with_reducible refine k_no ?_) | (with_reducible refine k_if ?_) | (with_reducible refine k_3B ?_) | (with_reducible refine k_m1 ?_) | (with_reducible refine k_m0 ?_) | (with_reducible refine k_cnt ?_) | (with_reducible refine k_meth ?_) | (with_reducible refine k_make ?_) | (with_reducible refine k_dget ?_) | (with_reducible refine k_dnew ?_) | (with_reducible refine k_dpop ?_))) | ((with_reducible refine (show OkS _ _ from ?_)); (first | (with_reducible refine k_seq ?_) | (with_reducible refine k_set ?_) | (with_reducible refine k_ret ?_) | (with_reducible refine k_sIf ?_) | (with_reducible refine k_for ?_) | (with_reducible refine k_forR ?_) | (with_reducible refine k_forG ?_) | (with_reducible refine k_pass ?_) | (with_reducible refine k_ex ?_) | (with_reducible refine k_retN ?_) | (with_reducible refine k_brk ?_) | (with_reducible refine k_cont ?_) | (with_reducible refine k_asg ?_) | (with_reducible refine k_setI ?_) | (with_reducible refine k_gc ?_) | (with_reducible refine k_forE ?_) | (with_reducible refine k_raise ?_) | (with_reducible refine k_tryAs ?_) | (with_reducible refine k_try ?_) | (with_reducible refine k_sFld ?_) | (with_reducible refine k_sSetD ?_) | (with_reducible refine k_sFldA ?_) | ((with_reducible refine k_aug (x := ?_) ?_ ?_); rotate_left 1; rfl) | ((with_reducible refine k_putI (ds := ?_) (k' := ?_) ?_ ?_ ?_); rotate_left 2; rfl; rfl))) | ((with_reducible refine (show OkB _ _ _ from ?_)); (first | (with_reducible refine k_tOf ?_) | (with_reducible refine k_tNo ?_) | (with_reducible refine k_tYs ?_))) | ((with_reducible refine (show OkA _ _ _ from ?_)); (first | (with_reducible refine k_aC ?_) | (with_reducible refine k_aN ?_))) | ((with_reducible refine k_bnd ?_ ?_); (first | omega | (simp; omega) | skip)) | ((with_reducible refine k_condT ?_ ?_); rfl) | ((with_reducible refine k_condF ?_ ?_); rfl) | ((with_reducible refine And.intro ?_ ?_); (first | rfl | exact Nat.le_of_ble_eq_true rfl | omega | (simp; done))) | ((with_reducible refine k_exe (w := ?_) ?_ ?_); rotate_left 1; rfl))))
/-! ### good trees -/
/-- a tree by its measures -/
def sm : Nat → D → Prop
  | _, .str x => x.length ≤ 300 ∧ Sg x
  | n + 1, .tup ds => ds.length ≤ 40 ∧ ∀ d ∈ ds, sm n d
  | _, _ => False
theorem sm_tr : ∀ {n : Nat} {d : D}, sm n d → tr n d := by
  intro n
  induction n with
  | zero => intro d h; cases d <;> first | exact h.elim | exact ⟨by have := h.1; omega, h.2⟩
  | succ n ih =>
    intro d h
    cases d <;> first | exact False.elim h | skip
    · exact ⟨by have := h.1; omega, h.2⟩
    · exact ⟨by have := h.1; omega, fun d hd => ih (h.2 d hd)⟩
theorem sm_mono : ∀ {n m : Nat} {d : D}, sm n d → n ≤ m → sm m d := by
  intro n
  induction n with
  | zero => intro m d h _; cases d <;> first | exact h.elim | (cases m <;> exact h)
  | succ n ih =>
    intro m d h hm
    obtain ⟨m, rfl⟩ : ∃ k, m = k + 1 := ⟨m - 1, by omega⟩
    cases d <;> first | exact False.elim h | exact ⟨h.1, fun d hd => ih (h.2 d hd) (by omega)⟩ | exact h
theorem good_sm : ∀ (n : Nat) (k : Nat) (d : D), (ms n d).1 = true → (ms n d).2.2 ≤ (k : Int) → sm k d := by
  have leaf : ∀ (n k : Nat) (x : Str), (ms n (.str x)).1 = true → sm k (.str x) := fun n k x h => by
    rw [ms_str] at h
    simp only [Bool.and_eq_true, decide_eq_true_eq, List.all_eq_true] at h
    cases k <;> exact ⟨by omega, h.2⟩
  intro n
  induction n with
  | zero =>
    intro k d h1 h2
    cases d <;> first | exact leaf _ _ _ h1 | cases h1
  | succ n ih =>
    intro k d h1 h2
    cases d <;> first | exact leaf _ _ _ h1 | (cases h1; done) | skip
    rename_i ds
    simp only [ms, Bool.and_eq_true, decide_eq_true_eq, List.all_eq_true] at h1 h2
    have h0 : (0 : Int) ≤ maxD 0 (ds.map fun d => (ms n d).2.2) := by
      cases ds with
      | nil => exact Int.le_refl _
      | cons d ds =>
        have h5 : ∀ (n : Nat) (d : D), 0 ≤ (ms n d).2.2 := by
          intro n
          induction n with
          | zero => intro d; cases d <;> first | exact Int.le_refl _ | exact (by decide : (0 : Int) ≤ 1)
          | succ n ih5 =>
            intro d
            cases d <;> first | exact Int.le_refl _ | exact (by decide : (0 : Int) ≤ 1) | skip
            rename_i es
            show 0 ≤ 1 + maxD 0 (es.map fun d => (ms n d).2.2)
            cases es with
            | nil => exact (by decide : (0 : Int) ≤ 1 + 0)
            | cons e es =>
              have := le_maxD (d := 0) (y := (ms n e).2.2) (ns := (e :: es).map fun d => (ms n d).2.2) (by simp)
              have := ih5 e
              omega
        have := le_maxD (d := 0) (y := (ms n d).2.2) (ns := (d :: ds).map fun d => (ms n d).2.2) (by simp)
        have := h5 n d
        omega
    obtain ⟨k, rfl⟩ : ∃ j, k = j + 1 := ⟨k - 1, by omega⟩
    refine ⟨by omega, fun d hd => ih k d (h1.2 d hd) ?_⟩
    have := le_maxD (d := 0) (y := (ms n d).2.2) (ns := ds.map fun d => (ms n d).2.2) (List.mem_map.mpr ⟨d, hd, rfl⟩)
    omega
theorem tt_size : ∀ (n : Nat) (d : D), tr n d → (((tt d).length : Nat) : Int) + 1 ≤ 4 * (ms n d).2.1 := by
  have leaf : ∀ (n : Nat) (x : Str), (((tt (.str x)).length : Nat) : Int) + 1 ≤ 4 * (ms n (.str x)).2.1 := fun n x => by
    rw [ms_str]
    have := esc_len x.cps.toList
    have := slen x
    rw [tt, List.length_cons, List.length_append, List.length_singleton]
    simp only
    omega
  intro n
  induction n with
  | zero => intro d h; cases d <;> first | exact h.elim | exact leaf _ _
  | succ n ih =>
    intro d h
    cases d <;> first | exact False.elim h | exact leaf _ _ | skip
    rename_i ds
    have all : ∀ ds : List D, (∀ d ∈ ds, tr n d) → (((ttr ds).length : Nat) : Int) ≤ 4 * (ds.map fun d => (ms n d).2.1).sum := by
      intro ds
      induction ds with
      | nil => intro _; exact (by decide : (0 : Int) ≤ 4 * 0)
      | cons d ds ih2 =>
        intro hd
        have h1 := ih d (hd d (by simp))
        have h2 := ih2 fun z hz => hd z (by simp [hz])
        rw [ttr, List.length_cons, List.length_append, List.map_cons, List.sum_cons]
        omega
    have h1 := all ds h.2
    have h2 : (tts ds).length ≤ (ttr ds).length := by
      cases ds with
      | nil => decide
      | cons d ds => rw [tts, ttr, List.length_cons]; omega
    show (((tt (.tup ds)).length : Nat) : Int) + 1 ≤ 4 * (1 + (ds.map fun d => (ms n d).2.1).sum)
    rw [tt, List.length_cons, List.length_append, List.length_singleton]
    omega
/-- a good tree -/
structure Gt (d : D) : Prop where
  s : sm 12 d
  t : (tt d).length ≤ 2400
theorem treeB_gt {d : D} (h : treeB d = true) (hd : tr 169 d) : Gt d := by
  unfold treeB at h
  simp only [Bool.and_eq_true, decide_eq_true_eq] at h
  have := tt_size 169 d hd
  exact ⟨good_sm 169 12 d h.1 h.2.2, by omega⟩
theorem Gt.tr {d : D} (h : Gt d) : tr 12 d := sm_tr h.s
theorem str_good {n : Nat} {x : Str} (h : x.length ≤ 300) (hs : Sg x) : treeB (.str x) = true := by
  unfold treeB
  rw [ms_str]
  have h2 : x.cps.toList.all (fun c => decide (c ∈ sgs)) = true := List.all_eq_true.mpr fun c hc => decide_eq_true (hs c hc)
  simp [h2]
  omega
theorem good_tree_s {S : Sto} {k : Nat} {a b : Int} {Q : QE} {X : QX} (hk : S[k]? = some (.lst [.int a, .int b])) (p : Pot a b) (h : ∀ d a' b', Gt d → treeB d = true → pc d ≤ 148 → Pot a' b' → Q d (S.set k (.lst [.int a', .int b']))) : OkE (callS m__law_good_tree [.obj k] S) Q X := by
  refine OkE_callL hk rfl rfl rfl ?_
  simp only [List.map_cons, List.map_nil, mapO, List.idxOf_cons_self]
  unfold m__law_good_tree
  refine k_fnD ?_
  unfold b__law_good_tree
  walk_at "S"
  refine tree_s 170 3 (by decide) rfl p fun d1 a1 b1 t1 c1 p1 => ?_
  walk_at "S"
  refine OkS_wh (fun n e S => ∃ t a b, e = [some (.obj 0), some t] ∧ S = [.lst [.int a, .int b]] ∧ Pot a b ∧ tr 42 t ∧ pc t ≤ 148 ∧ ((n = 0 ∧ treeB t = true) ∨ ∃ m, n = m + 1 ∧ tr m t)) (n := 43) (fun n e S => ?_) ⟨d1, a1, b1, rfl, rfl, p1, t1, c1, .inr ⟨42, rfl, t1⟩⟩
  rintro ⟨t, a, b, rfl, rfl, p, h42, hpc, hn⟩
  have h59 := tr_mono h42 (show 42 ≤ 169 by decide)
  refine k_tNo ?_
  walk_at "S"
  refine law_is_tree_s (tr_wf h59) ?_
  walk_at "S"
  cases hz : treeB t with
  | true =>
    refine ⟨(fun z => by cases z), fun _ => ?_⟩
    walk_at "S"
    have hg := treeB_gt hz h59
    have hc := tr_cl hg.tr
    have hs : ∀ S, still 1 S t = t := fun S => by cases t <;> first | rfl | (cases hc; done)
    have hl : low 1 t = true := cl_low hc
    show (low 1 (still 1 _ t) = true ∧ _) ∧ _
    simp only [List.length_singleton, hs]
    exact ⟨⟨hl, rfl⟩, _, rfl, rfl, hc, h _ _ _ hg hz hpc p⟩
  | false =>
    refine ⟨fun _ => ?_, (fun z => by cases z)⟩
    obtain ⟨m, rfl, hm⟩ := hn.resolve_left fun z => by rw [z.2] at hz; cases hz
    have kinds : (∃ x, t = .str x) ∨ ∃ ds, t = .tup ds := by
      cases m <;> cases t <;> first | exact False.elim hm | exact .inl ⟨_, rfl⟩ | exact .inr ⟨_, rfl⟩
    rcases kinds with ⟨x, rfl⟩ | ⟨ds, rfl⟩
    · have hx : x.length ≤ 1000 ∧ Sg x := h42
      have hpos : 300 < x.length := Nat.lt_of_not_le fun z => by
        rw [str_good (n := 0) z hx.2] at hz; cases hz
      walk_at "S"
      refine take_s rfl p (by omega) (by omega) fun d2 a2 b2 l2 u2 p2 => ?_
      obtain ⟨j, hj, hjm⟩ := at_lt (xs := x.cps.toList) l2 (by rw [← slen]; omega)
      refine k_ixS (by omega) hj ?_
      have h1 : (Str.mk #[j]).length = 1 := rfl
      have hsg : Sg ⟨#[j]⟩ := .one (hx.2 j hjm)
      exact ⟨0, by omega, _, _, _, rfl, rfl, p2, ⟨by rw [h1]; decide, hsg⟩, Nat.le_trans (List.count_le_length (a := 40) (l := [j])) (by decide : 1 ≤ 148), .inl ⟨rfl, str_good (n := 0) (by rw [h1]; decide) hsg⟩⟩
    · cases m with
      | zero => exact False.elim hm
      | succ m =>
        have hl := hm.1
        have hpos : 0 < ds.length := by
          cases ds with
          | nil => exact absurd hz (by decide)
          | cons d ds => exact Nat.succ_pos _
        walk_at "S"
        refine take_s rfl p (by omega) (by omega) fun d2 a2 b2 l2 u2 p2 => ?_
        obtain ⟨j, hj, hjm⟩ := at_lt (xs := ds) l2 (by omega)
        refine k_ixT hj ?_
        exact ⟨m + 1, by omega, _, _, _, rfl, rfl, p2, tr_mono (h42.2 j hjm) (by decide), by have h1 := pc_mem hjm; have h2 : 1 + pcs ds ≤ 148 := hpc; omega, .inr ⟨m, rfl, hm.2 j hjm⟩⟩
end Law

namespace Law
open PySem PySem.Spec PyProof.Rows L2 DL
/-! ### the two readers, on rows of signs -/
def pre (c : Nat) (z : List Nat × List Nat) : List Nat × List Nat := (c :: z.1, z.2)
def preD (d : D) (z : List D × List Nat) : List D × List Nat := (d :: z.1, z.2)
def strO (z : List Nat × List Nat) : D × List Nat := (.str ⟨z.1.toArray⟩, z.2)
def tupO (z : List D × List Nat) : D × List Nat := (.tup z.1, z.2)
def pTx : List Nat → Option (List Nat × List Nat)
  | [] => none
  | c :: r => if c = 34 then some ([], r) else if c = 92 then (match r with | [] => none | e :: r' => (pTx r').map (pre e)) else (pTx r).map (pre c)
def lTx : List Nat → Option (List Nat × List Nat)
  | [] => none
  | c :: r => if c = 34 then some ([], r) else if c = 92 then (match r with | [] => none | e :: r' => if e = 34 ∨ e = 92 then (lTx r').map (pre e) else none) else (lTx r).map (pre c)
def pR (pt : List Nat → Option (D × List Nat)) : Nat → List Nat → Option (List D × List Nat)
  | 0, _ => none
  | f + 1, s => if s.head? = some 41 then some ([], s.tail) else
      match pt s with
      | none => none
      | some (d, s') => if s'.head? = some 32 then (pR pt f s'.tail).map (preD d) else if s'.head? = some 41 then (pR pt f s').map (preD d) else none
def pT : Nat → List Nat → Option (D × List Nat)
  | 0, _ => none
  | n + 1, s => if s.head? = some 34 then (pTx s.tail).map strO else if s.head? = some 40 then (pR (pT n) (s.length + 1) s.tail).map tupO else none
def lR (lt : List Nat → Option (D × List Nat)) : Nat → List Nat → Option (List D × List Nat)
  | 0, _ => none
  | f + 1, s =>
      match lt s with
      | none => none
      | some (d, s') => if s'.head? = some 32 then (lR lt f s'.tail).map (preD d) else if s'.head? = some 41 then some ([d], s'.tail) else none
def lT : Nat → List Nat → Option (D × List Nat)
  | 0, _ => none
  | n + 1, s => if s.head? = some 34 then (lTx s.tail).map strO else if s.head? = some 40 then (if s.tail.head? = some 41 then some (.tup [], s.tail.tail) else (lR (lT n) (s.length + 1) s.tail).map tupO) else none
theorem lTx_34 (r : List Nat) : lTx (34 :: r) = some ([], r) := by rw [lTx.eq_def]; rfl
theorem lTx_92n : lTx [92] = none := by rw [lTx.eq_def]; rfl
theorem lTx_92 (e : Nat) (r : List Nat) : lTx (92 :: e :: r) = if e = 34 ∨ e = 92 then (lTx r).map (pre e) else none := by rw [lTx.eq_def]; rfl
theorem lTx_o {c : Nat} (h : ¬ c = 34) (h9 : ¬ c = 92) (r : List Nat) : lTx (c :: r) = (lTx r).map (pre c) := by
  rw [lTx.eq_def]
  simp only [if_neg h, if_neg h9]
theorem pTx_34 (r : List Nat) : pTx (34 :: r) = some ([], r) := by rw [pTx.eq_def]; rfl
theorem pTx_92n : pTx [92] = none := by rw [pTx.eq_def]; rfl
theorem pTx_92 (e : Nat) (r : List Nat) : pTx (92 :: e :: r) = (pTx r).map (pre e) := by rw [pTx.eq_def]; rfl
theorem pTx_o {c : Nat} (h : ¬ c = 34) (h9 : ¬ c = 92) (r : List Nat) : pTx (c :: r) = (pTx r).map (pre c) := by
  rw [pTx.eq_def]
  simp only [if_neg h, if_neg h9]
theorem headcons {s : List Nat} {c : Nat} (h : s.head? = some c) : s = c :: s.tail := by
  cases s with
  | nil => cases h
  | cons a r => cases h; rfl
theorem esc_cons (c : Nat) (x : List Nat) : esc (c :: x) = esc1 c ++ esc x := by unfold esc; rw [List.flatMap_cons]
/-! #### what the law's reader reads is written so -/
theorem lTx_tt : ∀ (n : Nat) {s : List Nat} {z : List Nat × List Nat}, s.length ≤ n → lTx s = some z → s = esc z.1 ++ 34 :: z.2
  | n, [], z, _, h => by cases h
  | 0, c :: r, z, hn, h => by simp at hn
  | n + 1, c :: r, z, hn, h => by
    have hr : r.length ≤ n := by simpa using hn
    by_cases hc : c = 34
    · subst hc
      rw [lTx_34] at h
      cases h; rfl
    · by_cases h9 : c = 92
      · subst h9
        cases r with
        | nil => rw [lTx_92n] at h; cases h
        | cons e r =>
          rw [lTx_92] at h
          split at h
          · rename_i he
            cases q : lTx r with
            | none => rw [q] at h; cases h
            | some y =>
              rw [q] at h
              cases h
              have := lTx_tt n (by simp at hr; omega) q
              show 92 :: e :: r = esc (e :: y.1) ++ 34 :: y.2
              rw [esc_cons, List.append_assoc, ← this]
              rcases he with rfl | rfl <;> rfl
          · cases h
      · rw [lTx_o hc h9] at h
        cases q : lTx r with
        | none => rw [q] at h; cases h
        | some y =>
          rw [q] at h
          cases h
          have := lTx_tt n hr q
          show c :: r = esc (c :: y.1) ++ 34 :: y.2
          rw [esc_cons, List.append_assoc, ← this]
          unfold esc1
          rw [if_neg h9, if_neg hc]
          rfl
theorem ttr_cons (e : D) (es : List D) : ttr (e :: es) = 32 :: tts (e :: es) := rfl
theorem lR_tt {lt : List Nat → Option (D × List Nat)} (hlt : ∀ s d r, lt s = some (d, r) → s = tt d ++ r) : ∀ (f : Nat) {s : List Nat} {z : List D × List Nat}, lR lt f s = some z → z.1 ≠ [] ∧ s = tts z.1 ++ 41 :: z.2
  | 0, s, z, h => by cases h
  | f + 1, s, z, h => by
    rw [lR] at h
    cases q : lt s with
    | none => rw [q] at h; cases h
    | some y =>
      obtain ⟨d, s'⟩ := y
      rw [q] at h
      simp only at h
      have e := hlt _ _ _ q
      split at h
      · rename_i h3
        cases q2 : lR lt f s'.tail with
        | none => rw [q2] at h; cases h
        | some y =>
          rw [q2] at h
          cases h
          obtain ⟨h1, h2⟩ := lR_tt hlt f q2
          refine ⟨by simp [preD], ?_⟩
          rw [e, headcons h3, h2]
          obtain ⟨a, t, hz⟩ : ∃ a t, y.1 = a :: t := by
            cases hy : y.1 with
            | nil => exact absurd hy h1
            | cons a t => exact ⟨a, t, rfl⟩
          show tt d ++ 32 :: (tts y.1 ++ 41 :: y.2) = (tt d ++ ttr y.1) ++ 41 :: y.2
          rw [hz, ttr_cons]
          simp
      · split at h
        · rename_i h4
          cases h
          refine ⟨by simp, ?_⟩
          rw [e, headcons h4]
          show tt d ++ 41 :: s'.tail = (tt d ++ []) ++ 41 :: s'.tail
          rw [List.append_nil]
        · cases h
theorem lT_tt : ∀ (n : Nat) (s : List Nat) (d : D) (r : List Nat), lT n s = some (d, r) → s = tt d ++ r
  | 0, s, d, r, h => by cases h
  | n + 1, s, d, r, h => by
    rw [lT] at h
    split at h
    · rename_i h3
      cases q : lTx s.tail with
      | none => rw [q] at h; cases h
      | some y =>
        rw [q] at h
        cases h
        have := lTx_tt _ (Nat.le_refl _) q
        rw [headcons h3, this]
        show 34 :: (esc y.1 ++ 34 :: y.2) = (34 :: (esc y.1 ++ [34])) ++ y.2
        simp
    · split at h
      · rename_i h4
        split at h
        · rename_i h5
          cases h
          rw [headcons h4]
          congr 1
          exact headcons h5
        · cases q : lR (lT n) (s.length + 1) s.tail with
          | none => rw [q] at h; cases h
          | some y =>
            rw [q] at h
            cases h
            have := (lR_tt (lT_tt n) _ q).2
            rw [headcons h4, this]
            show 40 :: (tts y.1 ++ 41 :: y.2) = (40 :: (tts y.1 ++ [41])) ++ y.2
            simp
      · cases h
/-! #### what is written is read -/
def dp : Nat → D → Prop
  | _ + 1, .str _ => True
  | n + 1, .tup ds => ∀ d ∈ ds, dp n d
  | _, _ => False
theorem dp_mono : ∀ {n m : Nat} {d : D}, dp n d → n ≤ m → dp m d := by
  intro n
  induction n with
  | zero => intro m d h _; cases d <;> exact h.elim
  | succ n ih =>
    intro m d h hm
    obtain ⟨m, rfl⟩ : ∃ k, m = k + 1 := ⟨m - 1, by omega⟩
    cases d with
    | str x => trivial
    | tup ds => exact fun z hz => ih (h z hz) (by omega)
    | _ => exact h.elim
theorem dp_head {n : Nat} {d : D} (h : dp n d) : ∃ c r, tt d = c :: r ∧ (c = 34 ∨ c = 40) := by
  cases n with
  | zero => cases d <;> exact h.elim
  | succ n =>
    cases d with
    | str x => exact ⟨_, _, rfl, .inl rfl⟩
    | tup ds => exact ⟨_, _, rfl, .inr rfl⟩
    | _ => exact h.elim
theorem lTx_esc : ∀ (x r : List Nat), lTx (esc x ++ 34 :: r) = some (x, r)
  | [], r => lTx_34 r
  | c :: x, r => by
    have ih := lTx_esc x r
    rw [esc_cons, List.append_assoc]
    unfold esc1
    by_cases h9 : c = 92
    · subst h9
      rw [if_pos rfl]
      show lTx (92 :: 92 :: (esc x ++ 34 :: r)) = _
      rw [lTx_92, if_pos (.inr rfl), ih]
      rfl
    · rw [if_neg h9]
      by_cases h3 : c = 34
      · subst h3
        rw [if_pos rfl]
        show lTx (92 :: 34 :: (esc x ++ 34 :: r)) = _
        rw [lTx_92, if_pos (.inl rfl), ih]
        rfl
      · rw [if_neg h3]
        show lTx (c :: (esc x ++ 34 :: r)) = _
        rw [lTx_o h3 h9, ih]
        rfl
theorem pTx_esc : ∀ (x r : List Nat), pTx (esc x ++ 34 :: r) = some (x, r)
  | [], r => pTx_34 r
  | c :: x, r => by
    have ih := pTx_esc x r
    rw [esc_cons, List.append_assoc]
    unfold esc1
    by_cases h9 : c = 92
    · subst h9
      rw [if_pos rfl]
      show pTx (92 :: 92 :: (esc x ++ 34 :: r)) = _
      rw [pTx_92, ih]
      rfl
    · rw [if_neg h9]
      by_cases h3 : c = 34
      · subst h3
        rw [if_pos rfl]
        show pTx (92 :: 34 :: (esc x ++ 34 :: r)) = _
        rw [pTx_92, ih]
        rfl
      · rw [if_neg h3]
        show pTx (c :: (esc x ++ 34 :: r)) = _
        rw [pTx_o h3 h9, ih]
        rfl
theorem lR_tts {lt : List Nat → Option (D × List Nat)} {P : D → Prop} (hlt : ∀ d r, P d → lt (tt d ++ r) = some (d, r)) : ∀ (f : Nat) (d : D) (ds : List D) (r : List Nat), P d → (∀ z ∈ ds, P z) → ds.length < f → lR lt f (tts (d :: ds) ++ 41 :: r) = some (d :: ds, r)
  | 0, d, ds, r, _, _, h => by omega
  | f + 1, d, [], r, hd, _, _ => by
    show lR lt (f + 1) ((tt d ++ []) ++ 41 :: r) = _
    rw [List.append_nil, lR, hlt d _ hd]
    rfl
  | f + 1, d, e :: es, r, hd, hds, hf => by
    have ih := lR_tts hlt f e es r (hds e (by simp)) (fun z hz => hds z (by simp [hz])) (by simpa using hf)
    have e1 : tts (d :: e :: es) ++ 41 :: r = tt d ++ 32 :: (tts (e :: es) ++ 41 :: r) := by
      show (tt d ++ ttr (e :: es)) ++ 41 :: r = _
      rw [ttr_cons]; simp
    rw [e1, lR, hlt d _ hd]
    simp only [List.head?_cons, List.tail_cons, if_true]
    rw [ih]
    rfl
theorem pR_tts {pt : List Nat → Option (D × List Nat)} {P : D → Prop} (hpt : ∀ d r, P d → pt (tt d ++ r) = some (d, r)) (hh : ∀ d, P d → ∃ c r, tt d = c :: r ∧ (c = 34 ∨ c = 40)) : ∀ (f : Nat) (ds : List D) (r : List Nat), (∀ z ∈ ds, P z) → ds.length < f → pR pt f (tts ds ++ 41 :: r) = some (ds, r)
  | 0, ds, r, _, h => by omega
  | f + 1, [], r, _, _ => by
    show pR pt (f + 1) (41 :: r) = _
    rw [pR]; rfl
  | f + 1, d :: ds, r, hds, hf => by
    have hd := hds d (by simp)
    have ih := pR_tts hpt hh f ds r (fun z hz => hds z (by simp [hz])) (by simpa using hf)
    obtain ⟨c, q, hc, hc2⟩ := hh d hd
    have e1 : tts (d :: ds) ++ 41 :: r = tt d ++ (ttr ds ++ 41 :: r) := by
      show (tt d ++ ttr ds) ++ 41 :: r = _
      simp
    have hne : ¬ (tt d ++ (ttr ds ++ 41 :: r)).head? = some 41 := by
      rw [hc]
      intro z
      cases z
      omega
    rw [e1, pR, if_neg hne, hpt d _ hd]
    simp only
    cases ds with
    | nil =>
      rw [if_neg (by intro z; cases z), if_pos (by rfl)]
      have ih : pR pt f (41 :: r) = some ([], r) := ih
      show (pR pt f (41 :: r)).map (preD d) = _
      rw [ih]
      rfl
    | cons e es =>
      rw [if_pos (by rfl)]
      have e2 : (ttr (e :: es) ++ 41 :: r).tail = tts (e :: es) ++ 41 :: r := rfl
      rw [e2, ih]
      rfl
theorem tts_ge : ∀ {n : Nat} {ds : List D}, (∀ d ∈ ds, dp n d) → ds.length ≤ (tts ds).length
  | n, [], _ => Nat.zero_le _
  | n, d :: ds, h => by
    have aux : ∀ ds : List D, ds.length ≤ (ttr ds).length := by
      intro ds
      induction ds with
      | nil => exact Nat.le_refl _
      | cons d ds ih => rw [ttr, List.length_cons, List.length_cons, List.length_append]; omega
    have h1 := aux ds
    obtain ⟨c, r, hc, _⟩ := dp_head (h d (by simp))
    rw [tts, List.length_append, hc, List.length_cons, List.length_cons]
    omega
theorem lT_read : ∀ (n : Nat) (d : D) (r : List Nat), dp n d → lT n (tt d ++ r) = some (d, r)
  | 0, d, r, h => by cases d <;> exact h.elim
  | n + 1, .str x, r, _ => by
    have e : tt (.str x) ++ r = 34 :: (esc x.cps.toList ++ 34 :: r) := by rw [tt]; simp
    rw [e, lT, if_pos (by rfl), List.tail_cons, lTx_esc]
    rfl
  | n + 1, .tup [], r, _ => by
    show lT (n + 1) (40 :: 41 :: r) = _
    rw [lT, if_neg (by intro z; cases z), if_pos (by rfl), if_pos (by rfl)]
    rfl
  | n + 1, .tup (d :: ds), r, h => by
    have e : tt (.tup (d :: ds)) ++ r = 40 :: (tts (d :: ds) ++ 41 :: r) := by rw [tt]; simp
    obtain ⟨c, q, hc, hc2⟩ := dp_head (h d (by simp))
    have hne : ¬ (tts (d :: ds) ++ 41 :: r).head? = some 41 := by
      rw [tts, hc]
      intro z
      cases z
      omega
    have hl := tts_ge (ds := d :: ds) h
    rw [e, lT, if_neg (by intro z; cases z), if_pos (by rfl), List.tail_cons, if_neg hne,
      lR_tts (lt := lT n) (P := dp n) (fun d r hd => lT_read n d r hd) _ d ds r (h d (by simp)) (fun z hz => h z (by simp [hz])) (by simp at hl ⊢; omega)]
    rfl
theorem pT_read : ∀ (n : Nat) (d : D) (r : List Nat), dp n d → pT n (tt d ++ r) = some (d, r)
  | 0, d, r, h => by cases d <;> exact h.elim
  | n + 1, .str x, r, _ => by
    have e : tt (.str x) ++ r = 34 :: (esc x.cps.toList ++ 34 :: r) := by rw [tt]; simp
    rw [e, pT, if_pos (by rfl), List.tail_cons, pTx_esc]
    rfl
  | n + 1, .tup ds, r, h => by
    have e : tt (.tup ds) ++ r = 40 :: (tts ds ++ 41 :: r) := by rw [tt]; simp
    have hl := tts_ge (ds := ds) h
    rw [e, pT, if_neg (by intro z; cases z), if_pos (by rfl), List.tail_cons,
      pR_tts (pt := pT n) (P := dp n) (fun d r hd => pT_read n d r hd) (fun d hd => dp_head hd) _ ds r h (by simp at hl ⊢; omega)]
    rfl
  | n + 1, .non, r, h => h.elim
  | n + 1, .bl _, r, h => h.elim
  | n + 1, .int _, r, h => h.elim
  | n + 1, .lst _, r, h => h.elim
  | n + 1, .dct _ _, r, h => h.elim
  | n + 1, .obj _, r, h => h.elim
  | n + 1, .scr _, r, h => h.elim
  | n + 1, .exn _, r, h => h.elim
/-! #### how big it is -/
theorem pTx_len : ∀ (n : Nat) {s : List Nat} {z : List Nat × List Nat}, s.length ≤ n → pTx s = some z → z.1.length + z.2.length < s.length ∧ ∃ p, s = p ++ z.2
  | n, [], z, _, h => by cases h
  | 0, c :: r, z, hn, h => by simp at hn
  | n + 1, c :: r, z, hn, h => by
    have hr : r.length ≤ n := by simpa using hn
    by_cases hc : c = 34
    · subst hc
      rw [pTx_34] at h
      cases h; exact ⟨by simp, [34], rfl⟩
    · by_cases h9 : c = 92
      · subst h9
        cases r with
        | nil => rw [pTx_92n] at h; cases h
        | cons e r =>
          rw [pTx_92] at h
          cases q : pTx r with
          | none => rw [q] at h; cases h
          | some y =>
            rw [q] at h
            cases h
            obtain ⟨h1, p, h2⟩ := pTx_len n (by simp at hr; omega) q
            exact ⟨by simp [pre]; omega, 92 :: e :: p, by rw [h2]; rfl⟩
      · rw [pTx_o hc h9] at h
        cases q : pTx r with
        | none => rw [q] at h; cases h
        | some y =>
          rw [q] at h
          cases h
          obtain ⟨h1, p, h2⟩ := pTx_len n hr q
          exact ⟨by simp [pre]; omega, c :: p, by rw [h2]; rfl⟩
end Law

namespace Law
open PySem PySem.Spec PyProof.Rows L2 DL
local macro_rules | `(tactic| walk_at "S") => `(tactic| (repeat (first | ((with_reducible refine (show OkE (opt _ _) _ _ from ?_)); (first | (with_reducible refine k_addI ?_) | (with_reducible refine k_subI ?_) | (with_reducible refine k_eqI ?_) | (with_reducible refine k_neI ?_) | (with_reducible refine k_ltI ?_) | (with_reducible refine k_leI ?_) | (with_reducible refine k_gtI ?_) | (with_reducible refine k_geI ?_) | (with_reducible refine k_eqS ?_) | (with_reducible refine k_neS ?_) | (with_reducible refine k_lenT ?_) | (with_reducible refine k_lenL ?_) | (with_reducible refine k_lenC ?_) | (with_reducible refine k_tupT ?_) | (with_reducible refine k_tupL ?_) | (with_reducible refine k_lstL ?_) | (with_reducible refine k_lstC ?_) | (with_reducible refine k_lstT ?_) | (with_reducible refine k_ltS ?_) | (with_reducible refine k_min2 ?_) | (with_reducible refine k_eqB ?_) | (with_reducible refine k_neB ?_) | (with_reducible refine k_slT ?_) | (with_reducible refine k_slL' ?_) | (with_reducible refine k_slC ?_) | (with_reducible refine k_strS ?_) | (with_reducible refine k_intI ?_) | (with_reducible refine k_intB ?_) | (with_reducible refine k_max2 ?_) | (with_reducible refine k_isxN ?_) | (with_reducible refine kp_kin ?_) | (with_reducible refine k_inT2 ?_) | (with_reducible refine k_inT3 ?_) | (with_reducible refine k_inT4 ?_) | (with_reducible refine k_inL2 ?_) | (with_reducible refine k_inL3 ?_) | (with_reducible refine k_inL4 ?_) | (with_reducible refine k_neg ?_) | ((with_reducible refine k_lenO (ds := ?_) ?_ ?_); rotate_left 1; rfl) | ((with_reducible refine k_tupO (ds := ?_) ?_ ?_); rotate_left 1; rfl) | ((with_reducible refine k_isi (t := ?_) ?_ ?_); rotate_left 1; rfl) | ((with_reducible refine k_is (z := ?_) ?_ ?_); rotate_left 1; rfl) | ((with_reducible refine k_isn (z := ?_) ?_ ?_); rotate_left 1; rfl) | ((with_reducible refine k_ixT (d := ?_) ?_ ?_); rotate_left 1; rfl) | ((with_reducible refine k_ixL (d := ?_) ?_ ?_); rotate_left 1; rfl) | ((with_reducible refine k_isx (z := ?_) ?_ ?_); rotate_left 1; rfl) | ((with_reducible refine k_fldG (fs := ?_) (d := ?_) ?_ ?_ ?_); rotate_left 2; rfl; rfl) | ((with_reducible refine kp_kix (y := ?_) ?_ ?_); rotate_left 1; rfl) | ((with_reducible refine k_ixO (ds := ?_) (d := ?_) ?_ ?_ ?_); rotate_left 2; rfl; rfl) | ((with_reducible refine k_lenS ?_ ?_); (first | omega | (simp; omega) | (with_reducible assumption) | decide)) | ((with_reducible refine k_mod ?_ ?_); (first | omega | (simp; omega) | (with_reducible assumption) | decide)) | ((with_reducible refine k_addS ?_ ?_); (first | omega | (simp; omega) | (with_reducible assumption) | decide)) | ((with_reducible refine k_mulI ?_ ?_); (first | omega | (simp; omega) | (with_reducible assumption) | decide)) | ((with_reducible refine k_addT ?_ ?_); (first | omega | (simp; omega) | (with_reducible assumption) | decide)) | ((with_reducible refine k_rep ?_ ?_); (first | omega | (simp; omega) | (with_reducible assumption) | decide)))) | ((with_reducible refine (show OkE _ _ _ from ?_)); (first | (with_reducible refine k_c ?_) | ((with_reducible refine k_v (d := ?_) ?_ ?_); rotate_left 1; rfl) | (with_reducible refine k_2 ?_) | (with_reducible refine k_1 ?_) | (with_reducible refine k_call ?_) | (with_reducible refine k_B ?_) | (with_reducible refine k_tup ?_) | (with_reducible refine k_lst ?_) | (with_reducible refine k_fld ?_) | (with_reducible refine k_new ?_) | (with_reducible refine k_sl2 ?_) | (with_reducible refine k_slL ?_) | (with_reducible refine k_slH ?_) | (with_reducible refine k_app ?_) | (with_reducible refine k_ext ?_) | (with_reducible refine k_bk ?_) | (with_reducible refine k_no ?_) | (with_reducible refine k_if ?_) | (with_reducible refine k_3B ?_) | (with_reducible refine k_m1 ?_) | (with_reducible refine k_m0 ?_) | (with_reducible refine k_cnt ?_) | (with_reducible refine k_meth ?_) | (with_reducible refine k_make ?_) | (with_reducible refine k_dget ?_) | (with_reducible refine k_dnew ?_) | (with_reducible refine k_dpop ?_))) | ((with_reducible refine (show OkS _ _ from ?_)); (first | (with_reducible refine k_seq ?_) | (with_reducible refine k_set ?_) | (with_reducible refine k_ret ?_) | (with_reducible refine k_sIf ?_) | (with_reducible refine k_for ?_) | (with_reducible refine k_forR ?_) | (with_reducible refine k_forG ?_) | (with_reducible refine k_pass ?_) | (with_reducible refine k_ex ?_) | (with_reducible refine k_retN ?_) | (with_reducible refine k_brk ?_) | (with_reducible refine k_cont ?_) | (with_reducible refine k_asg ?_) | (with_reducible refine k_setI ?_) | (with_reducible refine k_gc ?_) | (with_reducible refine k_forE ?_) | (with_reducible refine k_raise ?_) | (with_reducible refine k_tryAs ?_) | (with_reducible refine k_try ?_) | (with_reducible refine k_sFld ?_) | (with_reducible refine k_sSetD ?_) | (with_reducible refine k_sFldA ?_) | ((with_reducible refine k_aug (x := ?_) ?_ ?_); rotate_left 1; rfl) | ((with_reducible refine k_putI (ds := ?_) (k' := ?_) ?_ ?_ ?_); rotate_left 2; rfl; rfl))) | ((with_reducible refine (show OkB _ _ _ from ?_)); (first | (with_reducible refine k_tOf ?_) | (with_reducible refine k_tNo ?_) | (with_reducible refine k_tYs ?_))) | ((with_reducible refine (show OkA _ _ _ from ?_)); (first | (with_reducible refine k_aC ?_) | (with_reducible refine k_aN ?_))) | ((with_reducible refine k_bnd ?_ ?_); (first | omega | (simp; omega) | skip)) | ((with_reducible refine k_condT ?_ ?_); rfl) | ((with_reducible refine k_condF ?_ ?_); rfl) | ((with_reducible refine And.intro ?_ ?_); (first | rfl | exact Nat.le_of_ble_eq_true rfl | omega | (simp; done))) | ((with_reducible refine k_exe (w := ?_) ?_ ?_); rotate_left 1; rfl))))
theorem in_sgs (c : Nat) : (!decide ([c] < [32]) && !decide ([36] < [c]) || !decide ([c] < [38]) && !decide ([126] < [c])) = decide (c ∈ sgs) := by
  by_cases h : c < 127
  · have : ∀ c : Fin 127, (!decide ([c.val] < [32]) && !decide ([36] < [c.val]) || !decide ([c.val] < [38]) && !decide ([126] < [c.val])) = decide (c.val ∈ sgs) := by decide +kernel
    exact this ⟨c, h⟩
  · have h1 : decide (c ∈ sgs) = false := by
      rw [decide_eq_false_iff_not]
      intro hm
      have : ∀ z ∈ sgs, z < 127 := by decide +kernel
      exact h (this c hm)
    have h2 : ([126] : List Nat) < [c] := by
      rw [List.cons_lt_cons_iff]; left; omega
    have h3 : ([36] : List Nat) < [c] := by
      rw [List.cons_lt_cons_iff]; left; omega
    simp [h1, h2, h3]
theorem plain_s {x : Str} {S : Sto} {Q : QE} {X : QX} (hx : x.length ≤ 60000) (h : Q (.bl (x.cps.toList.all fun c => decide (c ∈ sgs))) S) : OkE (callS m_is_plain [.str x] S) Q X := by
  refine OkE_call0 rfl ?_
  unfold m_is_plain b_is_plain
  refine k_fn0 ?_
  walk_at "S"
  refine k_anB ?_
  walk_at "S"
  refine k_lcMap (f := fun z => match z with | .str x => .bl (decide (x.cps.getD 0 0 ∈ sgs)) | z => z) ?_
  walk_at "S"
  refine ⟨by simpa [DL.signs, Str.length] using (by omega : x.length ≤ 16777216), ?_, ?_⟩
  · intro z hz
    simp only [DL.signs, List.mem_map] at hz
    obtain ⟨c, hc, rfl⟩ := hz
    refine ⟨_, rfl, ?_⟩
    refine k_oB ?_
    walk_at "S"
    exact congrArg D.bl (in_sgs c)
  · walk_at "S"
    refine k_opt (d := .bl (x.cps.toList.all fun c => decide (c ∈ sgs))) ?_ ?_
    · have := bls_map (f := fun c => decide (c ∈ sgs)) x.cps.toList
      rw [gLb_lst]
      simp only [DL.signs, List.map_map, Function.comp_def]
      rw [show (fun c => D.bl (decide ((Str.mk #[c]).cps.getD 0 0 ∈ sgs))) = fun c => D.bl (decide (c ∈ sgs)) from rfl, this]
      simp [DL.allB]
    · walk_at "S"
      exact h

theorem sum_take {l : List Int} {i : Nat} {x : Int} (h : l[i]? = some x) : (l.take (i + 1)).sum = (l.take i).sum + x := by
  induction l generalizing i with
  | nil => simp at h
  | cons a l ih =>
    cases i with
    | zero => simp at h; simp [h]
    | succ i =>
      have := ih (i := i) (by simpa using h)
      rw [List.take_succ_cons, List.take_succ_cons, List.sum_cons, List.sum_cons, this]; omega
theorem sum_nn {l : List Int} (h : ∀ x ∈ l, 0 ≤ x) : 0 ≤ l.sum := by
  induction l with
  | nil => simp
  | cons a l ih =>
    rw [List.sum_cons]
    have h1 := h a List.mem_cons_self
    have h2 := ih fun x hx => h x (List.mem_cons_of_mem _ hx)
    omega
theorem sum_le {l : List Int} (h : ∀ x ∈ l, 0 ≤ x) (i : Nat) : (l.take i).sum ≤ l.sum := by
  have h1 := List.sum_append (l₁ := l.take i) (l₂ := l.drop i)
  rw [List.take_append_drop] at h1
  have h2 := sum_nn (l := l.drop i) fun x hx => h x (List.mem_of_mem_drop hx)
  omega
theorem maxD_le {l : List Int} {m : Int} (hm : 0 ≤ m) (h : ∀ x ∈ l, x ≤ m) : maxD 0 l ≤ m := by
  cases l with
  | nil => exact hm
  | cons a l =>
    have : ∀ (l : List Int) (a : Int), a ≤ m → (∀ x ∈ l, x ≤ m) → l.foldl max a ≤ m := by
      intro l
      induction l with
      | nil => intro a ha _; exact ha
      | cons b l ih => intro a ha hl; exact ih _ (by have := hl b (by simp); omega) fun x hx => hl x (by simp [hx])
    exact this l a (h a (by simp)) fun x hx => h x (by simp [hx])
theorem le_maxM {l : List Int} {x : Int} (hx : x ∈ l) : x ≤ maxD 0 l := by
  cases l with
  | nil => cases hx
  | cons a l =>
    have mono : ∀ (l : List Int) (a : Int), a ≤ l.foldl max a := by
      intro l
      induction l with
      | nil => intro a; exact Int.le_refl _
      | cons b l ih => intro a; exact Int.le_trans (by omega) (ih (max a b))
    have : ∀ (l : List Int) (a : Int), x ∈ a :: l → x ≤ l.foldl max a := by
      intro l
      induction l with
      | nil => intro a ha; rw [List.mem_singleton.mp ha]; exact Int.le_refl _
      | cons b l ih =>
        intro a ha
        simp only [List.mem_cons] at ha
        rcases ha with rfl | rfl | ha
        · exact Int.le_trans (by omega) (mono l (max x b))
        · exact Int.le_trans (by omega) (mono l (max a x))
        · exact ih _ (List.mem_cons_of_mem _ ha)
    exact this l a hx
theorem ms_nn : ∀ (n : Nat) (d : D), 0 ≤ (ms n d).2.1 ∧ 0 ≤ (ms n d).2.2 ∧ ((ms n d).1 = true → 1 ≤ (ms n d).2.1 ∧ 1 ≤ (ms n d).2.2) := by
  intro n
  induction n with
  | zero =>
    intro d
    cases d with
    | str x => rw [ms_str]; exact ⟨by simp only; omega, by simp, fun _ => ⟨by simp only; omega, by simp⟩⟩
    | _ => exact ⟨Int.le_refl _, Int.le_refl _, fun z => by cases z⟩
  | succ n ih =>
    intro d
    cases d with
    | str x => rw [ms_str]; exact ⟨by simp only; omega, by simp, fun _ => ⟨by simp only; omega, by simp⟩⟩
    | tup ds =>
      have h1 : 0 ≤ (ds.map fun d => (ms n d).2.1).sum := sum_nn fun x hx => by
        obtain ⟨d, _, rfl⟩ := List.mem_map.mp hx
        exact (ih d).1
      have h2 : 0 ≤ maxD 0 (ds.map fun d => (ms n d).2.2) := by
        cases ds with
        | nil => exact Int.le_refl _
        | cons d ds => exact Int.le_trans (ih d).2.1 (le_maxM (by simp))
      refine ⟨?_, ?_, fun _ => ⟨?_, ?_⟩⟩ <;> simp only [ms] <;> omega
    | _ => exact ⟨Int.le_refl _, Int.le_refl _, fun z => by cases z⟩
/-- what is left -/
def roomV (t : Bool × Int × Int) (deep room : Int) : D := if t.1 = true ∧ t.2.2 ≤ deep ∧ t.2.1 ≤ room then .int (room - t.2.1) else .non
theorem roomV_no {t : Bool × Int × Int} {deep room : Int} (h : ¬ (t.1 = true ∧ t.2.2 ≤ deep ∧ t.2.1 ≤ room)) : roomV t deep room = .non := if_neg h
theorem roomV_yes {t : Bool × Int × Int} {deep room : Int} (h : t.1 = true ∧ t.2.2 ≤ deep ∧ t.2.1 ≤ room) : roomV t deep room = .int (room - t.2.1) := if_pos h
theorem ms_oth {n : Nat} {d : D} (h1 : ∀ x, d ≠ .str x) (h2 : ∀ ds, d ≠ .tup ds) : ms n d = (false, 0, 0) := by
  cases n <;> cases d <;> first | rfl | exact absurd rfl (h1 _) | exact absurd rfl (h2 _)
theorem room_s : ∀ (n : Nat) (d : D), wf n d → ∀ {deep room : Int} {S : Sto} {Q : QE} {X : QX}, 0 ≤ deep → Q (roomV (ms n d) deep room) S → OkE (callS (m_room_left (n + 1)) [d, .int deep, .int room] S) Q X := by
  intro n
  have leaf : ∀ (n : Nat) (x : Str), x.length ≤ 60000 → ∀ {deep room : Int} {Q : QE} {X : QX}, 0 ≤ deep → Q (roomV (ms n (.str x)) deep room) [] → OkE (fnD 4 (b_room_left (m_room_left n)) [.str x, .int deep, .int room] []) Q X := by
    intro n x hx deep room Q X h0 h
    refine k_fn0 ?_
    unfold b_room_left
    walk_at "S"
    refine k_dec (fun hd => ?_) fun hd => ?_
    · walk_at "S"
      rw [roomV_no (by rw [ms_str]; rintro ⟨_, h2, _⟩; simp only at h2; omega)] at h
      exact h
    walk_at "S"
    refine k_tO ?_
    walk_at "S"
    refine k_tOB ?_
    walk_at "S"
    refine k_tOB ?_
    walk_at "S"
    refine plain_s hx ?_
    walk_at "S"
    rw [ms_str] at h
    unfold roomV at h
    by_cases hc : (x.length : Int) ≤ 300 ∧ (x.length : Int) + 1 ≤ room ∧ (x.cps.toList.all fun c => decide (c ∈ sgs)) = true
    · obtain ⟨c1, c2, c3⟩ := hc
      refine k_condF ?_ ?_
      · rw [c3]; simp; omega
      walk_at "S"
      rw [if_pos (by simp only [c3, Bool.and_true]; exact ⟨decide_eq_true c1, by omega, c2⟩)] at h
      have : room - (x.length : Int) - 1 = room - ((x.length : Int) + 1) := by omega
      rw [this]; exact h
    · refine k_condT ?_ ?_
      · rw [Bool.or_eq_true, Bool.or_eq_true, decide_eq_true_eq, decide_eq_true_eq, Bool.not_eq_true']
        by_cases c3 : (x.cps.toList.all fun c => decide (c ∈ sgs)) = true
        · by_cases c1 : (x.length : Int) ≤ 300
          · right; left
            have : ¬ (x.length : Int) + 1 ≤ room := fun z => hc ⟨c1, z, c3⟩
            omega
          · left; omega
        · right; right
          cases q : (x.cps.toList.all fun c => decide (c ∈ sgs)) with
          | true => exact absurd q c3
          | false => rfl
      walk_at "S"
      rw [if_neg (by
        rintro ⟨a1, a2, a3⟩
        simp only [Bool.and_eq_true, decide_eq_true_eq] at a1
        exact hc ⟨a1.1, a3, a1.2⟩)] at h
      exact h
  induction n with
  | zero =>
    intro d hd deep room S Q X h0 h
    refine OkE_call0 (by simp [wf_cl hd]) ?_
    show OkE (fnD 4 (b_room_left (m_room_left 0)) _ []) _ _
    cases d with
    | str x => exact leaf 0 x hd h0 ⟨rfl, by unfold roomV; split <;> rfl, h⟩
    | obj _ => exact hd.elim
    | scr _ => exact hd.elim
    | exn _ => exact hd.elim
    | tup _ => exact hd.elim
    | _ =>
      rw [ms_oth (fun _ z => by cases z) (fun _ z => by cases z), roomV_no (by simp)] at h
      refine k_fn0 ?_
      unfold b_room_left
      walk_at "S"
      refine k_dec (fun hd => ?_) fun hd => ?_
      · walk_at "S"
        exact h
      walk_at "S"
      refine k_tO ?_
      walk_at "S"
      exact h
  | succ n ih =>
    intro d hd deep room S Q X h0 h
    refine OkE_call0 (by simp [wf_cl hd]) ?_
    show OkE (fnD 4 (b_room_left (m_room_left (n + 1))) _ []) _ _
    cases d with
    | str x => exact leaf (n + 1) x hd h0 ⟨rfl, by unfold roomV; split <;> rfl, h⟩
    | obj _ => exact hd.elim
    | scr _ => exact hd.elim
    | exn _ => exact hd.elim
    | tup ds =>
      have nn := ms_nn (n + 1) (.tup ds)
      have hsz : ∀ x ∈ ds.map (fun d => (ms n d).2.1), 0 ≤ x := fun x hx => by
        obtain ⟨d, _, rfl⟩ := List.mem_map.mp hx
        exact (ms_nn n d).1
      refine k_fn0 ?_
      unfold b_room_left
      walk_at "S"
      refine k_dec (fun hd => ?_) fun hd0 => ?_
      · walk_at "S"
        rw [roomV_no (by rintro ⟨h1, h2, _⟩; have := (nn.2.2 h1).2; omega)] at h
        exact h
      walk_at "S"
      refine k_tOB ?_
      walk_at "S"
      by_cases hc : (ds.length : Int) ≤ 40 ∧ 1 ≤ room
      · refine k_condF ?_ ?_
        · simp; omega
        walk_at "S"
        refine OkS_for (fun i e S => ∃ x r, e = [some (.tup ds), some (.int deep), some (.int r), x] ∧ S = [] ∧ r = room - 1 - ((ds.map fun d => (ms n d).2.1).take i).sum ∧ 0 ≤ r ∧ ∀ j d, j < i → ds[j]? = some d → (ms n d).1 = true ∧ (ms n d).2.2 ≤ deep - 1) (k := 0) ⟨none, room - 1, rfl, rfl, by simp, by omega, fun j d hj => by omega⟩ ?_ ?_
        · rintro i d _ _ hdi ⟨x, r, rfl, rfl, hr, hr0, hall⟩
          refine ⟨rfl, _, rfl, ?_⟩
          walk_at "S"
          refine ih d (hd.2 d (List.mem_of_getElem? hdi)) (by omega) ?_
          have hs : ((ds.map fun d => (ms n d).2.1).take (0 + i + 1)).sum = ((ds.map fun d => (ms n d).2.1).take (0 + i)).sum + (ms n d).2.1 := sum_take (by rw [List.getElem?_map, Nat.zero_add, hdi]; rfl)
          by_cases hg : (ms n d).1 = true ∧ (ms n d).2.2 ≤ deep - 1 ∧ (ms n d).2.1 ≤ r
          · rw [roomV_yes hg]
            walk_at "S"
            exact ⟨_, _, rfl, rfl, by rw [hs, hr]; omega, by omega, fun j d' hj hd' => by
              by_cases e : j = 0 + i
              · subst e
                rw [Nat.zero_add] at hd'
                rw [hdi] at hd'; cases hd'
                exact ⟨hg.1, hg.2.1⟩
              · exact hall j d' (by omega) hd'⟩
          · rw [roomV_no hg]
            walk_at "S"
            rw [roomV_no (fun hy => hg ?_)] at h
            · exact h
            · obtain ⟨y1, y2, y3⟩ := hy
              simp only [ms, Bool.and_eq_true] at y1 y2 y3
              have m : d ∈ ds := List.mem_of_getElem? hdi
              have a1 := List.all_eq_true.mp y1.2 d m
              have a2 : (ms n d).2.2 ≤ maxD 0 (ds.map fun d => (ms n d).2.2) := le_maxM (List.mem_map.mpr ⟨d, m, rfl⟩)
              have a3 := sum_le hsz (0 + i + 1)
              exact ⟨a1, by omega, by omega⟩
        · rintro _ _ ⟨x, r, rfl, rfl, hr, hr0, hall⟩
          refine ⟨rfl, ?_⟩
          walk_at "S"
          have e1 : ((ds.map fun d => (ms n d).2.1).take (0 + ds.length)).sum = (ds.map fun d => (ms n d).2.1).sum := by
            rw [List.take_of_length_le (by simp)]
          have hd1 : maxD 0 (ds.map fun d => (ms n d).2.2) ≤ deep - 1 := maxD_le (by omega) fun x hx => by
            obtain ⟨d, hm, rfl⟩ := List.mem_map.mp hx
            obtain ⟨j, hj, e⟩ := List.getElem_of_mem hm
            exact (hall j d (by omega) (by rw [List.getElem?_eq_getElem hj, e])).2
          rw [roomV_yes (by
            refine ⟨?_, ?_, ?_⟩
            · simp only [ms, Bool.and_eq_true]
              refine ⟨decide_eq_true hc.1, List.all_eq_true.mpr fun d hm => ?_⟩
              obtain ⟨j, hj, e⟩ := List.getElem_of_mem hm
              exact (hall j d (by omega) (by rw [List.getElem?_eq_getElem hj, e])).1
            · simp only [ms]; omega
            · simp only [ms]; omega)] at h
          have : r = room - (ms (n + 1) (.tup ds)).2.1 := by simp only [ms]; omega
          rw [this]; exact h
      · refine k_condT ?_ ?_
        · simp; omega
        walk_at "S"
        rw [roomV_no (by
          rintro ⟨y1, y2, y3⟩
          have := nn.2.2 y1
          simp only [ms, Bool.and_eq_true, decide_eq_true_eq] at y1
          exact hc ⟨y1.1, by omega⟩)] at h
        exact h
    | _ =>
      rw [ms_oth (fun _ z => by cases z) (fun _ z => by cases z), roomV_no (by simp)] at h
      refine k_fn0 ?_
      unfold b_room_left
      walk_at "S"
      refine k_dec (fun hd => ?_) fun hd => ?_
      · walk_at "S"
        exact h
      walk_at "S"
      refine k_tO ?_
      walk_at "S"
      exact h

theorem is_tree_s {d : D} (hd : wf 169 d) {S : Sto} {Q : QE} {X : QX} (h : Q (.bl (treeB d)) S) : OkE (callS m_is_tree [d] S) Q X := by
  refine OkE_call0 (by simp [wf_cl hd]) ?_
  unfold m_is_tree b_is_tree
  refine k_fn0 ?_
  walk_at "S"
  refine room_s 169 d hd (by decide) ?_
  by_cases hg : (ms 169 d).1 = true ∧ (ms 169 d).2.2 ≤ 12 ∧ (ms 169 d).2.1 ≤ 600
  · rw [roomV_yes hg]
    walk_at "S"
    have : treeB d = true := by unfold treeB; simp [hg]
    rw [this] at h
    exact h
  · rw [roomV_no hg]
    walk_at "S"
    have : treeB d = false := by
      cases q : treeB d with
      | false => rfl
      | true =>
        unfold treeB at q
        simp only [Bool.and_eq_true, decide_eq_true_eq] at q
        exact absurd ⟨q.1, q.2.2, q.2.1⟩ hg
    rw [this] at h
    exact h
end Law

namespace Law
open PySem PySem.Spec PyProof.Rows L2 DL
/-! #### how big what is read is -/
theorem wf_str0 {n : Nat} {x : Str} (h : x.length ≤ 60000) : wf n (.str x) := by cases n <;> exact h
theorem mk_len (l : List Nat) : (⟨l.toArray⟩ : Str).length = l.length := by rw [slen]
structure Rd (n : Nat) (s : List Nat) (d : D) (r : List Nat) : Prop where
  lt : r.length < s.length
  suf : ∃ p, s = p ++ r
  w : s.length ≤ 60000 → wf n d
theorem pR_rd {n : Nat} {pt : List Nat → Option (D × List Nat)} (hpt : ∀ s d r, pt s = some (d, r) → Rd n s d r) : ∀ (f : Nat) {s : List Nat} {z : List D × List Nat}, pR pt f s = some z → z.1.length + z.2.length < s.length ∧ (∃ p, s = p ++ z.2) ∧ (s.length ≤ 60000 → ∀ d ∈ z.1, wf n d)
  | 0, s, z, h => by cases h
  | f + 1, s, z, h => by
    rw [pR] at h
    split at h
    · rename_i h4
      cases h
      have hs := headcons h4
      refine ⟨?_, ⟨[41], hs⟩, fun _ d hd => by cases hd⟩
      rw [hs]; simp
    · cases q : pt s with
      | none => rw [q] at h; cases h
      | some y =>
        obtain ⟨d, s'⟩ := y
        rw [q] at h
        simp only at h
        have k := hpt _ _ _ q
        have hlt := k.lt
        obtain ⟨p, hp⟩ := k.suf
        split at h
        · rename_i h3
          cases q2 : pR pt f s'.tail with
          | none => rw [q2] at h; cases h
          | some y =>
            rw [q2] at h
            cases h
            obtain ⟨h1, ⟨p2, h2⟩, h5⟩ := pR_rd hpt f q2
            have hs := headcons h3
            have hsl : s'.tail.length + 1 = s'.length := by rw [hs]; simp
            refine ⟨by simp [preD]; omega, ⟨p ++ 32 :: p2, ?_⟩, fun hle z hz => ?_⟩
            · show s = (p ++ 32 :: p2) ++ y.2
              rw [hp, hs, h2]; simp
            · rcases List.mem_cons.mp hz with rfl | hz
              · exact k.w hle
              · exact h5 (by omega) z hz
        · split at h
          · cases q2 : pR pt f s' with
            | none => rw [q2] at h; cases h
            | some y =>
              rw [q2] at h
              cases h
              obtain ⟨h1, ⟨p2, h2⟩, h5⟩ := pR_rd hpt f q2
              refine ⟨by simp [preD]; omega, ⟨p ++ p2, ?_⟩, fun hle z hz => ?_⟩
              · show s = (p ++ p2) ++ y.2
                rw [hp, List.append_assoc, ← h2]
              · rcases List.mem_cons.mp hz with rfl | hz
                · exact k.w hle
                · exact h5 (by omega) z hz
          · cases h
theorem pT_rd : ∀ (n : Nat) (s : List Nat) (d : D) (r : List Nat), pT n s = some (d, r) → Rd n s d r
  | 0, s, d, r, h => by cases h
  | n + 1, s, d, r, h => by
    rw [pT] at h
    split at h
    · rename_i h3
      have hs := headcons h3
      have hsl : s.tail.length + 1 = s.length := by rw [hs]; simp
      cases q : pTx s.tail with
      | none => rw [q] at h; cases h
      | some y =>
        rw [q] at h
        cases h
        obtain ⟨h1, p, h2⟩ := pTx_len _ (Nat.le_refl _) q
        refine ⟨by show y.2.length < _; omega, ⟨34 :: p, ?_⟩, fun hle => wf_str0 (by rw [mk_len]; omega)⟩
        show s = (34 :: p) ++ y.2
        rw [hs, h2]; rfl
    · split at h
      · rename_i h4
        have hs := headcons h4
        have hsl : s.tail.length + 1 = s.length := by rw [hs]; simp
        cases q : pR (pT n) (s.length + 1) s.tail with
        | none => rw [q] at h; cases h
        | some y =>
          rw [q] at h
          cases h
          obtain ⟨h1, ⟨p, h2⟩, h5⟩ := pR_rd (pT_rd n) _ q
          refine ⟨by show y.2.length < _; omega, ⟨40 :: p, ?_⟩, fun hle => ⟨by omega, h5 (by omega)⟩⟩
          show s = (40 :: p) ++ y.2
          rw [hs, h2]; rfl
      · cases h
/-! the law's -/
theorem lTx_len : ∀ (n : Nat) {s : List Nat} {z : List Nat × List Nat}, s.length ≤ n → lTx s = some z → z.1.length + z.2.length < s.length
  | n, [], z, _, h => by cases h
  | 0, c :: r, z, hn, h => by simp at hn
  | n + 1, c :: r, z, hn, h => by
    have hr : r.length ≤ n := by simpa using hn
    by_cases hc : c = 34
    · subst hc
      rw [lTx_34] at h
      cases h; simp
    · by_cases h9 : c = 92
      · subst h9
        cases r with
        | nil => rw [lTx_92n] at h; cases h
        | cons e r =>
          rw [lTx_92] at h
          split at h
          · cases q : lTx r with
            | none => rw [q] at h; cases h
            | some y =>
              rw [q] at h
              cases h
              have := lTx_len n (by simp at hr; omega) q
              simp [pre]; omega
          · cases h
      · rw [lTx_o hc h9] at h
        cases q : lTx r with
        | none => rw [q] at h; cases h
        | some y =>
          rw [q] at h
          cases h
          have := lTx_len n hr q
          simp [pre]; omega
structure Ld (n : Nat) (s : List Nat) (d : D) (r : List Nat) : Prop where
  lt : r.length < s.length
  w : s.length ≤ 60000 → wf n d
theorem lR_ld {n : Nat} {lt : List Nat → Option (D × List Nat)} (hlt : ∀ s d r, lt s = some (d, r) → Ld n s d r) : ∀ (f : Nat) {s : List Nat} {z : List D × List Nat}, lR lt f s = some z → z.1.length + z.2.length < s.length + 1 ∧ z.2.length < s.length ∧ (s.length ≤ 60000 → ∀ d ∈ z.1, wf n d)
  | 0, s, z, h => by cases h
  | f + 1, s, z, h => by
    rw [lR] at h
    cases q : lt s with
    | none => rw [q] at h; cases h
    | some y =>
      obtain ⟨d, s'⟩ := y
      rw [q] at h
      simp only at h
      have k := hlt _ _ _ q
      have hl := k.lt
      split at h
      · rename_i h3
        have hs := headcons h3
        have hsl : s'.tail.length + 1 = s'.length := by rw [hs]; simp
        cases q2 : lR lt f s'.tail with
        | none => rw [q2] at h; cases h
        | some y =>
          rw [q2] at h
          cases h
          obtain ⟨h1, h2, h5⟩ := lR_ld hlt f q2
          refine ⟨by simp [preD]; omega, by simp [preD]; omega, fun hle z hz => ?_⟩
          rcases List.mem_cons.mp hz with rfl | hz
          · exact k.w hle
          · exact h5 (by omega) z hz
      · split at h
        · rename_i h4
          have hs := headcons h4
          have hsl : s'.tail.length + 1 = s'.length := by rw [hs]; simp
          cases h
          refine ⟨by simp; omega, by simp; omega, fun hle z hz => ?_⟩
          rw [List.mem_singleton.mp hz]; exact k.w hle
        · cases h
theorem lT_ld : ∀ (n : Nat) (s : List Nat) (d : D) (r : List Nat), lT n s = some (d, r) → Ld n s d r
  | 0, s, d, r, h => by cases h
  | n + 1, s, d, r, h => by
    rw [lT] at h
    split at h
    · rename_i h3
      have hs := headcons h3
      have hsl : s.tail.length + 1 = s.length := by rw [hs]; simp
      cases q : lTx s.tail with
      | none => rw [q] at h; cases h
      | some y =>
        rw [q] at h
        cases h
        have h1 := lTx_len _ (Nat.le_refl _) q
        exact ⟨by show y.2.length < _; omega, fun hle => wf_str0 (by rw [mk_len]; omega)⟩
    · split at h
      · rename_i h4
        have hs := headcons h4
        have hsl : s.tail.length + 1 = s.length := by rw [hs]; simp
        split at h
        · rename_i h5
          have hs2 := headcons h5
          have hsl2 : s.tail.tail.length + 1 = s.tail.length := by rw [hs2]; simp
          cases h
          exact ⟨by omega, fun _ => ⟨by simp, fun d hd => by cases hd⟩⟩
        · cases q : lR (lT n) (s.length + 1) s.tail with
          | none => rw [q] at h; cases h
          | some y =>
            rw [q] at h
            cases h
            obtain ⟨h1, h2, h5⟩ := lR_ld (lT_ld n) _ q
            exact ⟨by show y.2.length < _; omega, fun hle => ⟨by omega, h5 (by omega)⟩⟩
      · cases h
/-! #### both tell the same -/
theorem good_dp : ∀ (n k : Nat) (d : D), (ms n d).1 = true → (ms n d).2.2 ≤ (k : Int) → dp k d := by
  have leaf : ∀ (n k : Nat) (x : Str), (ms n (.str x)).2.2 ≤ (k : Int) → dp k (.str x) := fun n k x h => by
    rw [ms_str] at h
    have h : (1 : Int) ≤ k := h
    obtain ⟨k, rfl⟩ : ∃ j, k = j + 1 := ⟨k - 1, by omega⟩
    trivial
  intro n
  induction n with
  | zero =>
    intro k d h1 h2
    cases d <;> first | exact leaf _ _ _ h2 | cases h1
  | succ n ih =>
    intro k d h1 h2
    cases d <;> first | exact leaf _ _ _ h2 | (cases h1; done) | skip
    rename_i ds
    have hn := (ms_nn (n + 1) (.tup ds)).2.2 h1
    simp only [ms, Bool.and_eq_true, decide_eq_true_eq, List.all_eq_true] at h1 h2 hn
    obtain ⟨k, rfl⟩ : ∃ j, k = j + 1 := ⟨k - 1, by omega⟩
    intro d hd
    refine ih k d (h1.2 d hd) ?_
    have := le_maxM (l := ds.map fun d => (ms n d).2.2) (List.mem_map.mpr ⟨d, hd, rfl⟩)
    omega
theorem tree_dp {d : D} (h : treeB d = true) : dp 12 d := by
  unfold treeB at h
  simp only [Bool.and_eq_true, decide_eq_true_eq] at h
  exact good_dp 169 12 d h.1 h.2.2
def rdO (s : List Nat) : Option D := match pT 12 s with
  | some (d, _) => if treeB d = true ∧ tt d = s then some d else none
  | none => none
def duO (s : List Nat) : Option D := match lT 160 s with
  | some (d, r) => if r = [] ∧ treeB d = true then some d else none
  | none => none
theorem rdO_tt {d : D} (h : treeB d = true) : rdO (tt d) = some d := by
  have h1 := pT_read 12 d [] (tree_dp h)
  rw [List.append_nil] at h1
  unfold rdO
  rw [h1]
  simp [h]
theorem rdO_some {s : List Nat} {d : D} (h : rdO s = some d) : treeB d = true ∧ tt d = s := by
  unfold rdO at h
  split at h
  · split at h
    · rename_i h1; cases h; exact h1
    · cases h
  · cases h
theorem duO_tt {d : D} (h : treeB d = true) : duO (tt d) = some d := by
  have h1 := lT_read 160 d [] (dp_mono (tree_dp h) (by decide))
  rw [List.append_nil] at h1
  unfold duO
  rw [h1]
  simp [h]
theorem duO_some {s : List Nat} {d : D} (h : duO s = some d) : treeB d = true ∧ tt d = s := by
  unfold duO at h
  split at h
  · rename_i d' r q
    split at h
    · rename_i h1
      cases h
      have := lT_tt _ _ _ _ q
      rw [h1.1, List.append_nil] at this
      exact ⟨h1.2, this.symm⟩
    · cases h
  · cases h
theorem du_rd (s : List Nat) : duO s = rdO s := by
  cases h : duO s with
  | some d =>
    obtain ⟨h1, h2⟩ := duO_some h
    rw [← h2, rdO_tt h1]
  | none =>
    cases h2 : rdO s with
    | none => rfl
    | some d =>
      obtain ⟨h3, h4⟩ := rdO_some h2
      rw [← h4, duO_tt h3] at h
      cases h
end Law

namespace Law
open PySem PySem.Spec PyProof.Rows L2 DL
local macro_rules | `(tactic| walk_at "T") => `(tactic| (repeat (first | ((with_reducible refine (show OkE (opt _ _) _ _ from ?_)); (first | (with_reducible refine k_addI ?_) | (with_reducible refine k_subI ?_) | (with_reducible refine k_eqI ?_) | (with_reducible refine k_neI ?_) | (with_reducible refine k_ltI ?_) | (with_reducible refine k_leI ?_) | (with_reducible refine k_gtI ?_) | (with_reducible refine k_geI ?_) | (with_reducible refine k_eqS ?_) | (with_reducible refine k_neS ?_) | (with_reducible refine k_lenT ?_) | (with_reducible refine k_lenL ?_) | (with_reducible refine k_lenC ?_) | (with_reducible refine k_tupT ?_) | (with_reducible refine k_tupL ?_) | (with_reducible refine k_lstL ?_) | (with_reducible refine k_lstC ?_) | (with_reducible refine k_lstT ?_) | (with_reducible refine k_ltS ?_) | (with_reducible refine k_min2 ?_) | (with_reducible refine k_eqB ?_) | (with_reducible refine k_neB ?_) | (with_reducible refine k_slT ?_) | (with_reducible refine k_slL' ?_) | (with_reducible refine k_slC ?_) | (with_reducible refine k_strS ?_) | (with_reducible refine k_intI ?_) | (with_reducible refine k_intB ?_) | (with_reducible refine k_max2 ?_) | (with_reducible refine k_isxN ?_) | (with_reducible refine kp_kin ?_) | (with_reducible refine k_inT2 ?_) | (with_reducible refine k_inT3 ?_) | (with_reducible refine k_inT4 ?_) | (with_reducible refine k_inL2 ?_) | (with_reducible refine k_inL3 ?_) | (with_reducible refine k_inL4 ?_) | (with_reducible refine k_neg ?_) | ((with_reducible refine k_lenO (ds := ?_) ?_ ?_); rotate_left 1; rfl) | ((with_reducible refine k_tupO (ds := ?_) ?_ ?_); rotate_left 1; rfl) | ((with_reducible refine k_isi (t := ?_) ?_ ?_); rotate_left 1; rfl) | ((with_reducible refine k_is (z := ?_) ?_ ?_); rotate_left 1; rfl) | ((with_reducible refine k_isn (z := ?_) ?_ ?_); rotate_left 1; rfl) | ((with_reducible refine k_ixT (d := ?_) ?_ ?_); rotate_left 1; rfl) | ((with_reducible refine k_ixL (d := ?_) ?_ ?_); rotate_left 1; rfl) | ((with_reducible refine k_isx (z := ?_) ?_ ?_); rotate_left 1; rfl) | ((with_reducible refine k_fldG (fs := ?_) (d := ?_) ?_ ?_ ?_); rotate_left 2; rfl; rfl) | ((with_reducible refine kp_kix (y := ?_) ?_ ?_); rotate_left 1; rfl) | ((with_reducible refine k_ixO (ds := ?_) (d := ?_) ?_ ?_ ?_); rotate_left 2; rfl; rfl) | ((with_reducible refine k_lenS ?_ ?_); (first | omega | (simp; omega) | (with_reducible assumption) | decide)) | ((with_reducible refine k_mod ?_ ?_); (first | omega | (simp; omega) | (with_reducible assumption) | decide)) | ((with_reducible refine k_addS ?_ ?_); (first | omega | (simp; omega) | (with_reducible assumption) | decide)) | ((with_reducible refine k_mulI ?_ ?_); (first | omega | (simp; omega) | (with_reducible assumption) | decide)) | ((with_reducible refine k_addT ?_ ?_); (first | omega | (simp; omega) | (with_reducible assumption) | decide)) | ((with_reducible refine k_rep ?_ ?_); (first | omega | (simp; omega) | (with_reducible assumption) | decide)))) | ((with_reducible refine (show OkE _ _ _ from ?_)); (first | (with_reducible refine k_c ?_) | ((with_reducible refine k_v (d := ?_) ?_ ?_); rotate_left 1; rfl) | (with_reducible refine k_2 ?_) | (with_reducible refine k_1 ?_) | (with_reducible refine k_call ?_) | (with_reducible refine k_B ?_) | (with_reducible refine k_tup ?_) | (with_reducible refine k_lst ?_) | (with_reducible refine k_fld ?_) | (with_reducible refine k_new ?_) | (with_reducible refine k_sl2 ?_) | (with_reducible refine k_slL ?_) | (with_reducible refine k_slH ?_) | (with_reducible refine k_app ?_) | (with_reducible refine k_ext ?_) | (with_reducible refine k_bk ?_) | (with_reducible refine k_no ?_) | (with_reducible refine k_if ?_) | (with_reducible refine k_3B ?_) | (with_reducible refine k_m1 ?_) | (with_reducible refine k_m0 ?_) | (with_reducible refine k_cnt ?_) | (with_reducible refine k_meth ?_) | (with_reducible refine k_make ?_) | (with_reducible refine k_dget ?_) | (with_reducible refine k_dnew ?_) | (with_reducible refine k_dpop ?_) | (with_reducible refine k_an ?_))) | ((with_reducible refine (show OkS _ _ from ?_)); (first | (with_reducible refine k_seq ?_) | (with_reducible refine k_set ?_) | (with_reducible refine k_ret ?_) | (with_reducible refine k_sIf ?_) | (with_reducible refine k_for ?_) | (with_reducible refine k_forR ?_) | (with_reducible refine k_forG ?_) | (with_reducible refine k_pass ?_) | (with_reducible refine k_ex ?_) | (with_reducible refine k_retN ?_) | (with_reducible refine k_brk ?_) | (with_reducible refine k_cont ?_) | (with_reducible refine k_asg ?_) | (with_reducible refine k_setI ?_) | (with_reducible refine k_gc ?_) | (with_reducible refine k_forE ?_) | (with_reducible refine k_raise ?_) | (with_reducible refine k_tryAs ?_) | (with_reducible refine k_try ?_) | (with_reducible refine k_sFld ?_) | (with_reducible refine k_sSetD ?_) | (with_reducible refine k_sFldA ?_) | ((with_reducible refine k_aug (x := ?_) ?_ ?_); rotate_left 1; rfl) | ((with_reducible refine k_putI (ds := ?_) (k' := ?_) ?_ ?_ ?_); rotate_left 2; rfl; rfl))) | ((with_reducible refine (show OkB _ _ _ from ?_)); (first | (with_reducible refine k_tOf ?_) | (with_reducible refine k_tNo ?_) | (with_reducible refine k_tYs ?_) | (with_reducible refine k_tO ?_) | (with_reducible refine k_tAn ?_))) | ((with_reducible refine (show OkA _ _ _ from ?_)); (first | (with_reducible refine k_aC ?_) | (with_reducible refine k_aN ?_))) | ((with_reducible refine k_bnd ?_ ?_); (first | omega | (simp; omega) | skip)) | ((with_reducible refine k_condT ?_ ?_); rfl) | ((with_reducible refine k_condF ?_ ?_); rfl) | ((with_reducible refine And.intro ?_ ?_); (first | rfl | exact Nat.le_of_ble_eq_true rfl | omega | (simp; done))) | ((with_reducible refine k_exe (w := ?_) ?_ ?_); rotate_left 1; rfl))))
/-! ### the program's reader -/
theorem one_at (T : Str) (i : Nat) : (cutS T (some (i : Int)) (some ((i : Int) + 1))).cps.toList = (T.cps.toList.drop i).take 1 := by
  rw [show ((i : Int) + 1) = ((i + 1 : Nat) : Int) from rfl, cut_2]
  congr 1
  omega
theorem cut_is {T : Str} {i : Nat} {x : Str} {c : Nat} (hx : x.cps.toList = [c]) : decide (cutS T (DL.part (D.int (i : Int))) (DL.part (D.int ((i : Int) + 1))) = x) = decide ((T.cps.toList.drop i).head? = some c) := by
  have h1 := one_at T i
  show decide (cutS T (some (i : Int)) (some ((i : Int) + 1)) = x) = _
  refine decide_eq_decide.mpr ⟨fun h => ?_, fun h => str_ext ?_⟩
  · rw [h, hx] at h1
    cases q : T.cps.toList.drop i with
    | nil => rw [q] at h1; cases h1
    | cons a r =>
      rw [q] at h1
      have h1 : [c] = [a] := h1
      cases h1; rfl
  · rw [h1, hx, headcons h]
    rfl
theorem drop_lt {l : List Nat} {i c : Nat} (h : (l.drop i).head? = some c) : i < l.length ∧ l.drop i = c :: l.drop (i + 1) ∧ l[i]? = some c := by
  have h1 : i < l.length := by
    apply Nat.lt_of_not_le
    intro z
    rw [List.drop_eq_nil_of_le z] at h
    cases h
  rw [List.drop_eq_getElem_cons h1] at h ⊢
  have h : l[i] = c := by rw [List.head?_cons] at h; exact Option.some.inj h
  exact ⟨h1, by rw [h], by rw [List.getElem?_eq_getElem h1, h]⟩
theorem suf_drop {l p r : List Nat} {i : Nat} (hi : i ≤ l.length) (h : l.drop i = p ++ r) : r = l.drop (l.length - r.length) ∧ r.length ≤ l.length := by
  have h1 : (l.drop i).length = p.length + r.length := by rw [h, List.length_append]
  rw [List.length_drop] at h1
  have h2 : l.length - r.length = i + p.length := by omega
  refine ⟨?_, by omega⟩
  rw [h2, ← List.drop_drop, h]
  simp
def sgn (c : Nat) : D := .str ⟨#[c]⟩
theorem sgn_cl (l : List Nat) : cls (l.map sgn) = true := cls_of fun d hd => by
  obtain ⟨c, _, rfl⟩ := List.mem_map.mp hd
  rfl
theorem strL_sgn : ∀ l : List Nat, strL (l.map sgn) = some (l.map fun c => (⟨#[c]⟩ : Str))
  | [] => rfl
  | c :: l => by rw [List.map_cons, List.map_cons, sgn, strL, strL_sgn l]; rfl
theorem join_sgn (l : List Nat) : Txt.join "" (l.map fun c => (⟨#[c]⟩ : Str)) = ⟨l.toArray⟩ := by
  refine str_ext ?_
  cases l with
  | nil => rfl
  | cons c l =>
    rw [List.map_cons, join_cons]
    have h1 : ("" : Str).cps.toList = [] := rfl
    have : ∀ l : List Nat, StrLaws.glueL [] (l.map fun c => (⟨#[c]⟩ : Str)) = l := by
      intro l
      induction l with
      | nil => rfl
      | cons c l ih => rw [List.map_cons, StrLaws.glueL, ih]; rfl
    rw [h1, StrLaws.glueT, this]
    rfl
theorem join_len (l : List Nat) : ((l.map fun c => (⟨#[c]⟩ : Str)).map (·.length)).sum = l.length := by
  induction l with
  | nil => rfl
  | cons c l ih =>
    rw [List.map_cons, List.map_cons, List.sum_cons, ih, List.length_cons]
    show 1 + _ = _
    omega
theorem k_joinO {S : Sto} {Q : QE} {X : QX} {n : Nat} {w : Str} {ds : List D} {ys : List Str} (h0 : S[n]? = some (.lst ds)) (h1 : strL ds = some ys) (h2 : (ys.map (·.length)).sum + ys.length * w.length ≤ 16777216) (k : Q (.str (Txt.join w ys)) S) : OkE (opt (gJoin S (.str w) (.obj n)) S) Q X := by
  have : gJoin S (.str w) (.obj n) = some (.str (Txt.join w ys)) := by
    simp only [gJoin, view, h0, h1]
    exact if_pos h2
  rw [this]; exact k
section
variable {T : Str} {a : Nat} {S : Sto} {Q : QE} {X : QX}
theorem text_from_s (hT : T.length ≤ 60000) (ha : a ≤ T.length) (q : ∀ x r, pTx (T.cps.toList.drop a) = some (x, r) → Q (.tup [.str ⟨x.toArray⟩, .int ((T.length - r.length : Nat) : Int)]) S) (qx : pTx (T.cps.toList.drop a) = none → X "BadTree" S) : OkE (callS m_text_from [.str T, .int a] S) Q X := by
  have hL : T.cps.toList.length = T.length := (slen T).symm
  refine OkE_call0 rfl ?_
  unfold m_text_from
  refine k_fn0 ?_
  unfold b_text_from
  walk_at "T"
  refine OkS_wh (fun n e S' => ∃ (i : Nat) (acc : List Nat), e = [some (.str T), some (.int i), some (.obj 0)] ∧ S' = [.lst (acc.map sgn)] ∧ i ≤ T.length ∧ n = T.length - i ∧ acc.length ≤ i ∧ pTx (T.cps.toList.drop a) = (pTx (T.cps.toList.drop i)).map (fun z => (acc ++ z.1, z.2))) (n := T.length - a) ?_ ⟨a, [], rfl, rfl, ha, rfl, Nat.zero_le _, by cases pTx (T.cps.toList.drop a) <;> rfl⟩
  rintro n e S' ⟨i, acc, rfl, rfl, hi, rfl, hacc, hm⟩
  walk_at "T"
  refine k_slS (by omega) ?_
  walk_at "T"
  rw [cut_is (c := 34) rfl]
  by_cases h34 : (T.cps.toList.drop i).head? = some 34
  · obtain ⟨h1, h2, h3⟩ := drop_lt h34
    rw [decide_eq_true h34]
    refine ⟨(fun z => by cases z), fun _ => ?_⟩
    rw [h2, pTx_34] at hm
    have hq := q _ _ hm
    walk_at "T"
    refine k_joinO (ds := acc.map sgn) rfl (strL_sgn acc) (by rw [join_len, show ("" : Str).length = 0 from rfl, Nat.mul_zero]; omega) ?_
    rw [join_sgn]
    walk_at "T"
    have e1 : (T.length - (T.cps.toList.drop (i + 1)).length : Nat) = i + 1 := by rw [List.length_drop]; omega
    rw [List.append_nil, e1] at hq
    have hq : Q (.tup [.str ⟨acc.toArray⟩, .int ((i : Int) + 1)]) S := hq
    first | exact hq | exact ⟨rfl, rfl, rfl, hq⟩
  · rw [decide_eq_false h34]
    refine ⟨fun _ => ?_, (fun z => by cases z)⟩
    walk_at "T"
    refine k_slS (by omega) ?_
    walk_at "T"
    rw [cut_is (c := 92) rfl]
    by_cases h92 : (T.cps.toList.drop i).head? = some 92
    · obtain ⟨h1, h2, h3⟩ := drop_lt h92
      rw [decide_eq_true h92]
      walk_at "T"
      refine k_dec (fun hge => ?_) fun hlt => ?_
      · walk_at "T"
        have e1 : T.cps.toList.drop (i + 1) = [] := List.drop_eq_nil_of_le (by omega)
        rw [h2, e1, pTx_92n] at hm
        first | exact qx hm | exact ⟨rfl, qx hm⟩
      · refine k_pass ?_
        have hi1 : i + 1 < T.cps.toList.length := by omega
        have e2 : T.cps.toList.drop (i + 1) = T.cps.toList[i + 1] :: T.cps.toList.drop (i + 2) := List.drop_eq_getElem_cons hi1
        have e3 : T.cps.toList[i + 1]? = some T.cps.toList[i + 1] := List.getElem?_eq_getElem hi1
        generalize T.cps.toList[i + 1] = c at e2 e3
        rw [h2, e2, pTx_92] at hm
        walk_at "T"
        refine k_ixS (j := c) (by omega) (atI_nat (j := i + 1) e3) ?_
        refine k_appI (n := 0) (ds := acc.map sgn) rfl (by simp; omega) ?_
        walk_at "T"
        refine ⟨T.length - (i + 2), by omega, i + 2, acc ++ [c], ?_, ?_, by omega, rfl, by simp; omega, ?_⟩
        · rfl
        · show [Cell.lst (acc.map sgn ++ [sgn c])] = _
          rw [List.map_append]; rfl
        · rw [hm]
          cases pTx (T.cps.toList.drop (i + 2)) with
          | none => rfl
          | some z => show some _ = some _; simp [pre]
    · rw [decide_eq_false h92]
      walk_at "T"
      refine k_dec (fun hge => ?_) fun hlt => ?_
      · walk_at "T"
        have e1 : T.cps.toList.drop i = [] := List.drop_eq_nil_of_le (by omega)
        rw [e1] at hm
        first | exact qx hm | exact ⟨rfl, qx hm⟩
      · refine k_pass ?_
        have hi1 : i < T.cps.toList.length := by omega
        have e2 : T.cps.toList.drop i = T.cps.toList[i] :: T.cps.toList.drop (i + 1) := List.drop_eq_getElem_cons hi1
        have e3 : T.cps.toList[i]? = some T.cps.toList[i] := List.getElem?_eq_getElem hi1
        generalize T.cps.toList[i] = c at e2 e3
        rw [e2] at h34 h92 hm
        rw [pTx_o (fun z => h34 (by rw [z]; rfl)) (fun z => h92 (by rw [z]; rfl))] at hm
        walk_at "T"
        refine k_ixS (j := c) (by omega) (atI_nat (j := i) e3) ?_
        refine k_appI (n := 0) (ds := acc.map sgn) rfl (by simp; omega) ?_
        walk_at "T"
        refine ⟨T.length - (i + 1), by omega, i + 1, acc ++ [c], ?_, ?_, by omega, rfl, by simp; omega, ?_⟩
        · rfl
        · show [Cell.lst (acc.map sgn ++ [sgn c])] = _
          rw [List.map_append]; rfl
        · rw [hm]
          cases pTx (T.cps.toList.drop (i + 1)) with
          | none => rfl
          | some z => show some _ = some _; simp [pre]
end
end Law

namespace Law
open PySem PySem.Spec PyProof.Rows L2 DL
local macro_rules | `(tactic| walk_at "T") => `(tactic| (repeat (first | ((with_reducible refine (show OkE (opt _ _) _ _ from ?_)); (first | (with_reducible refine k_addI ?_) | (with_reducible refine k_subI ?_) | (with_reducible refine k_eqI ?_) | (with_reducible refine k_neI ?_) | (with_reducible refine k_ltI ?_) | (with_reducible refine k_leI ?_) | (with_reducible refine k_gtI ?_) | (with_reducible refine k_geI ?_) | (with_reducible refine k_eqS ?_) | (with_reducible refine k_neS ?_) | (with_reducible refine k_lenT ?_) | (with_reducible refine k_lenL ?_) | (with_reducible refine k_lenC ?_) | (with_reducible refine k_tupT ?_) | (with_reducible refine k_tupL ?_) | (with_reducible refine k_lstL ?_) | (with_reducible refine k_lstC ?_) | (with_reducible refine k_lstT ?_) | (with_reducible refine k_ltS ?_) | (with_reducible refine k_min2 ?_) | (with_reducible refine k_eqB ?_) | (with_reducible refine k_neB ?_) | (with_reducible refine k_slT ?_) | (with_reducible refine k_slL' ?_) | (with_reducible refine k_slC ?_) | (with_reducible refine k_strS ?_) | (with_reducible refine k_intI ?_) | (with_reducible refine k_intB ?_) | (with_reducible refine k_max2 ?_) | (with_reducible refine k_isxN ?_) | (with_reducible refine kp_kin ?_) | (with_reducible refine k_inT2 ?_) | (with_reducible refine k_inT3 ?_) | (with_reducible refine k_inT4 ?_) | (with_reducible refine k_inL2 ?_) | (with_reducible refine k_inL3 ?_) | (with_reducible refine k_inL4 ?_) | (with_reducible refine k_neg ?_) | ((with_reducible refine k_lenO (ds := ?_) ?_ ?_); rotate_left 1; rfl) | ((with_reducible refine k_tupO (ds := ?_) ?_ ?_); rotate_left 1; rfl) | ((with_reducible refine k_isi (t := ?_) ?_ ?_); rotate_left 1; rfl) | ((with_reducible refine k_is (z := ?_) ?_ ?_); rotate_left 1; rfl) | ((with_reducible refine k_isn (z := ?_) ?_ ?_); rotate_left 1; rfl) | ((with_reducible refine k_ixT (d := ?_) ?_ ?_); rotate_left 1; rfl) | ((with_reducible refine k_ixL (d := ?_) ?_ ?_); rotate_left 1; rfl) | ((with_reducible refine k_isx (z := ?_) ?_ ?_); rotate_left 1; rfl) | ((with_reducible refine k_fldG (fs := ?_) (d := ?_) ?_ ?_ ?_); rotate_left 2; rfl; rfl) | ((with_reducible refine kp_kix (y := ?_) ?_ ?_); rotate_left 1; rfl) | ((with_reducible refine k_ixO (ds := ?_) (d := ?_) ?_ ?_ ?_); rotate_left 2; rfl; rfl) | ((with_reducible refine k_lenS ?_ ?_); (first | omega | (simp; omega) | (with_reducible assumption) | decide)) | ((with_reducible refine k_mod ?_ ?_); (first | omega | (simp; omega) | (with_reducible assumption) | decide)) | ((with_reducible refine k_addS ?_ ?_); (first | omega | (simp; omega) | (with_reducible assumption) | decide)) | ((with_reducible refine k_mulI ?_ ?_); (first | omega | (simp; omega) | (with_reducible assumption) | decide)) | ((with_reducible refine k_addT ?_ ?_); (first | omega | (simp; omega) | (with_reducible assumption) | decide)) | ((with_reducible refine k_rep ?_ ?_); (first | omega | (simp; omega) | (with_reducible assumption) | decide)))) | ((with_reducible refine (show OkE _ _ _ from ?_)); (first | (with_reducible refine k_c ?_) | ((with_reducible refine k_v (d := ?_) ?_ ?_); rotate_left 1; rfl) | (with_reducible refine k_2 ?_) | (with_reducible refine k_1 ?_) | (with_reducible refine k_call ?_) | (with_reducible refine k_B ?_) | (with_reducible refine k_tup ?_) | (with_reducible refine k_lst ?_) | (with_reducible refine k_fld ?_) | (with_reducible refine k_new ?_) | (with_reducible refine k_sl2 ?_) | (with_reducible refine k_slL ?_) | (with_reducible refine k_slH ?_) | (with_reducible refine k_app ?_) | (with_reducible refine k_ext ?_) | (with_reducible refine k_bk ?_) | (with_reducible refine k_no ?_) | (with_reducible refine k_if ?_) | (with_reducible refine k_3B ?_) | (with_reducible refine k_m1 ?_) | (with_reducible refine k_m0 ?_) | (with_reducible refine k_cnt ?_) | (with_reducible refine k_meth ?_) | (with_reducible refine k_make ?_) | (with_reducible refine k_dget ?_) | (with_reducible refine k_dnew ?_) | (with_reducible refine k_dpop ?_) | (with_reducible refine k_an ?_))) | ((with_reducible refine (show OkS _ _ from ?_)); (first | (with_reducible refine k_seq ?_) | (with_reducible refine k_set ?_) | (with_reducible refine k_ret ?_) | (with_reducible refine k_sIf ?_) | (with_reducible refine k_for ?_) | (with_reducible refine k_forR ?_) | (with_reducible refine k_forG ?_) | (with_reducible refine k_pass ?_) | (with_reducible refine k_ex ?_) | (with_reducible refine k_retN ?_) | (with_reducible refine k_brk ?_) | (with_reducible refine k_cont ?_) | (with_reducible refine k_asg ?_) | (with_reducible refine k_setI ?_) | (with_reducible refine k_gc ?_) | (with_reducible refine k_forE ?_) | (with_reducible refine k_raise ?_) | (with_reducible refine k_tryAs ?_) | (with_reducible refine k_try ?_) | (with_reducible refine k_sFld ?_) | (with_reducible refine k_sSetD ?_) | (with_reducible refine k_sFldA ?_) | ((with_reducible refine k_aug (x := ?_) ?_ ?_); rotate_left 1; rfl) | ((with_reducible refine k_putI (ds := ?_) (k' := ?_) ?_ ?_ ?_); rotate_left 2; rfl; rfl))) | ((with_reducible refine (show OkB _ _ _ from ?_)); (first | (with_reducible refine k_tOf ?_) | (with_reducible refine k_tNo ?_) | (with_reducible refine k_tYs ?_) | (with_reducible refine k_tO ?_) | (with_reducible refine k_tAn ?_))) | ((with_reducible refine (show OkA _ _ _ from ?_)); (first | (with_reducible refine k_aC ?_) | (with_reducible refine k_aN ?_))) | ((with_reducible refine k_bnd ?_ ?_); (first | omega | (simp; omega) | skip)) | ((with_reducible refine k_condT ?_ ?_); rfl) | ((with_reducible refine k_condF ?_ ?_); rfl) | ((with_reducible refine And.intro ?_ ?_); (first | rfl | exact Nat.le_of_ble_eq_true rfl | omega | (simp; done))) | ((with_reducible refine k_exe (w := ?_) ?_ ?_); rotate_left 1; rfl))))
theorem clsm : ∀ {ds : List D}, cls ds = true → ∀ d ∈ ds, cl d = true
  | [], _, d, h => by cases h
  | z :: ds, h, d, hd => by
    rw [cls, Bool.and_eq_true] at h
    rcases List.mem_cons.mp hd with rfl | hd
    · exact h.1
    · exact clsm h.2 d hd
section
variable {T : Str}
theorem tree_from_s (hT : T.length ≤ 60000) : ∀ (n F : Nat), 2 * n + 1 ≤ F → ∀ {a : Nat} {S : Sto} {Q : QE} {X : QX}, a ≤ T.length → (∀ d r, pT n (T.cps.toList.drop a) = some (d, r) → Q (.tup [d, .int ((T.length - r.length : Nat) : Int)]) S) → (pT n (T.cps.toList.drop a) = none → X "BadTree" S) → OkE (callS (m_tree_from F) [.str T, .int a, .int n] S) Q X := by
  have hL : T.cps.toList.length = T.length := (slen T).symm
  intro n
  induction n with
  | zero =>
    intro F hF a S Q X ha q qx
    obtain ⟨F, rfl⟩ : ∃ k, F = k + 1 := ⟨F - 1, by omega⟩
    refine OkE_call0 rfl ?_
    show OkE (fnD 3 (b_tree_from (m_row_from F) (m_tree_from F)) _ []) _ _
    refine k_fn0 ?_
    unfold b_tree_from
    walk_at "T"
    first | exact qx rfl | exact ⟨rfl, qx rfl⟩
  | succ n ih =>
    intro F hF a S Q X ha q qx
    obtain ⟨F, rfl⟩ : ∃ k, F = k + 1 := ⟨F - 1, by omega⟩
    refine OkE_call0 rfl ?_
    show OkE (fnD 3 (b_tree_from (m_row_from F) (m_tree_from F)) _ []) _ _
    refine k_fn0 ?_
    unfold b_tree_from
    walk_at "T"
    refine k_slS (by omega) ?_
    walk_at "T"
    rw [cut_is (c := 34) rfl]
    rw [pT] at q qx
    by_cases h34 : (T.cps.toList.drop a).head? = some 34
    · obtain ⟨h1, h2, h3⟩ := drop_lt h34
      rw [if_pos h34, h2, List.tail_cons] at q qx
      rw [decide_eq_true h34]
      walk_at "T"
      refine text_from_s (a := a + 1) hT (by omega) (fun x r hx => ?_) fun hx => ?_
      · have := q _ _ (by rw [hx]; rfl)
        first | exact this | exact ⟨rfl, rfl, rfl, this⟩
      · have := qx (by rw [hx]; rfl)
        first | exact this | exact ⟨rfl, this⟩ | exact ⟨rfl, rfl, this⟩
    · rw [if_neg h34] at q qx
      rw [decide_eq_false h34]
      walk_at "T"
      refine k_slS (by omega) ?_
      walk_at "T"
      rw [cut_is (c := 40) rfl]
      by_cases h40 : (T.cps.toList.drop a).head? = some 40
      · obtain ⟨h1, h2, h3⟩ := drop_lt h40
        rw [if_pos h40, h2, List.tail_cons] at q qx
        rw [decide_eq_true h40]
        walk_at "T"
        obtain ⟨G, rfl⟩ : ∃ k, F = k + 1 := ⟨F - 1, by omega⟩
        rw [show ((n + 1 : Nat) : Int) - 1 = (n : Int) from by omega]
        have hf0 : T.length - (a + 1) < (40 :: T.cps.toList.drop (a + 1)).length + 1 := by rw [List.length_cons, List.length_drop]; omega
        have ha1 : a + 1 ≤ T.length := by omega
        rw [show ((a : Int) + 1) = ((a + 1 : Nat) : Int) from rfl]
        generalize (40 :: T.cps.toList.drop (a + 1)).length + 1 = f0 at q qx hf0
        clear h2
        generalize a + 1 = b at q qx hf0 ha1 ⊢
        refine OkE_call0 rfl ?_
        show OkE (fnD 5 (b_row_from (m_row_from G) (m_tree_from G)) _ []) _ _
        refine k_fn0 ?_
        unfold b_row_from
        walk_at "T"
        refine OkS_wh (fun k e S' => ∃ (i : Nat) (acc : List D) (f : Nat) (y4 : Option D), e = [some (.str T), some (.int i), some (.int n), some (.obj 0), y4] ∧ S' = [.lst acc] ∧ i ≤ T.length ∧ k = T.length - i ∧ acc.length ≤ i ∧ cls acc = true ∧ T.length - i < f ∧ pR (pT n) f0 (T.cps.toList.drop b) = (pR (pT n) f (T.cps.toList.drop i)).map (fun z => (acc ++ z.1, z.2))) (n := T.length - b) ?_ ⟨b, [], f0, none, rfl, rfl, ha1, rfl, Nat.zero_le _, rfl, hf0, by cases pR (pT n) f0 (T.cps.toList.drop b) <;> rfl⟩
        rintro k e S' ⟨i, acc, f, y4, rfl, rfl, hi, rfl, hacc, hcl, hf, hm⟩
        obtain ⟨f, rfl⟩ : ∃ g, f = g + 1 := ⟨f - 1, by omega⟩
        walk_at "T"
        refine k_slS (by omega) ?_
        walk_at "T"
        rw [cut_is (c := 41) rfl]
        rw [pR] at hm
        by_cases h41 : (T.cps.toList.drop i).head? = some 41
        · obtain ⟨g1, g2, g3⟩ := drop_lt h41
          rw [if_pos h41, g2, List.tail_cons] at hm
          rw [decide_eq_true h41]
          refine ⟨(fun z => by cases z), fun _ => ?_⟩
          have hq := q _ _ (by rw [hm]; rfl)
          have e1 : (T.length - (T.cps.toList.drop (i + 1)).length : Nat) = i + 1 := by rw [List.length_drop]; omega
          have hq : Q (.tup [.tup (acc ++ []), .int ((T.length - (T.cps.toList.drop (i + 1)).length : Nat) : Int)]) S := hq
          rw [List.append_nil, e1] at hq
          have hq : Q (.tup [.tup acc, .int ((i : Int) + 1)]) S := hq
          walk_at "T"
          have hc2 : cl (.tup [.tup acc, .int ((i : Int) + 1)]) = true := by simp [hcl]
          first | exact hq | exact ⟨hc2, rfl, hc2, hq⟩ | exact ⟨hc2, rfl, hc2, hc2, rfl, hc2, hq⟩
        · rw [if_neg h41] at hm
          rw [decide_eq_false h41]
          refine ⟨fun _ => ?_, (fun z => by cases z)⟩
          walk_at "T"
          refine ih G (by omega) hi (fun d r hd => ?_) fun hd => ?_
          · rw [hd] at hm
            simp only at hm
            have kk := pT_rd n _ _ _ hd
            obtain ⟨p, hp⟩ := kk.suf
            obtain ⟨r1, r2⟩ := suf_drop (l := T.cps.toList) (by omega) hp
            have hlt := kk.lt
            rw [List.length_drop] at hlt
            have hdc : cl d = true := wf_cl (kk.w (by rw [List.length_drop]; omega))
            rw [hL] at r1
            have hi2 : T.length - r.length ≤ T.length := Nat.sub_le _ _
            have hi3 : i < T.length - r.length := by omega
            rw [r1] at hm
            generalize T.length - r.length = i' at hm hi2 hi3 ⊢
            clear r1 r2 hp hlt kk hd
            walk_at "T"
            refine k_appI (n := 0) (ds := acc) rfl (by omega) ?_
            walk_at "T"
            refine k_slS (by omega) ?_
            walk_at "T"
            rw [cut_is (c := 32) rfl]
            have hcl2 : cls (acc ++ [d]) = true := cls_of fun z hz => by
              rcases List.mem_append.mp hz with hz | hz
              · exact clsm hcl z hz
              · rw [List.mem_singleton.mp hz]; exact hdc
            have mp : ∀ o : Option (List D × List Nat), (o.map (preD d)).map (fun z => (acc ++ z.1, z.2)) = o.map (fun z => ((acc ++ [d]) ++ z.1, z.2)) := fun o => by
              cases o with
              | none => rfl
              | some z => show some _ = some _; simp [preD]
            by_cases h32 : (T.cps.toList.drop i').head? = some 32
            · obtain ⟨g1, g2, g3⟩ := drop_lt h32
              rw [if_pos h32, g2, List.tail_cons, mp] at hm
              rw [decide_eq_true h32]
              walk_at "T"
              exact ⟨T.length - (i' + 1), by omega, i' + 1, acc ++ [d], f, _, rfl, rfl, by omega, rfl, by simp; omega, hcl2, by omega, hm⟩
            · rw [if_neg h32] at hm
              rw [decide_eq_false h32]
              walk_at "T"
              refine k_slS (by omega) ?_
              walk_at "T"
              rw [cut_is (c := 41) rfl]
              by_cases h41' : (T.cps.toList.drop i').head? = some 41
              · rw [if_pos h41', mp] at hm
                rw [decide_eq_true h41']
                walk_at "T"
                exact ⟨T.length - i', by omega, i', acc ++ [d], f, _, rfl, rfl, by omega, rfl, by simp; omega, hcl2, by omega, hm⟩
              · rw [if_neg h41'] at hm
                rw [decide_eq_false h41']
                walk_at "T"
                have := qx (by rw [hm]; rfl)
                first | exact this | exact ⟨rfl, this⟩ | exact ⟨rfl, rfl, this⟩
          · rw [hd] at hm
            have := qx (by rw [hm]; rfl)
            first | exact this | exact ⟨rfl, this⟩ | exact ⟨rfl, rfl, this⟩
      · rw [if_neg h40] at q qx
        rw [decide_eq_false h40]
        walk_at "T"
        first | exact qx rfl | exact ⟨rfl, qx rfl⟩
end
end Law

namespace Law
open PySem PySem.Spec PyProof.Rows L2 DL
local macro_rules | `(tactic| walk_at "T") => `(tactic| (repeat (first | ((with_reducible refine (show OkE (opt _ _) _ _ from ?_)); (first | (with_reducible refine k_addI ?_) | (with_reducible refine k_subI ?_) | (with_reducible refine k_eqI ?_) | (with_reducible refine k_neI ?_) | (with_reducible refine k_ltI ?_) | (with_reducible refine k_leI ?_) | (with_reducible refine k_gtI ?_) | (with_reducible refine k_geI ?_) | (with_reducible refine k_eqS ?_) | (with_reducible refine k_neS ?_) | (with_reducible refine k_lenT ?_) | (with_reducible refine k_lenL ?_) | (with_reducible refine k_lenC ?_) | (with_reducible refine k_tupT ?_) | (with_reducible refine k_tupL ?_) | (with_reducible refine k_lstL ?_) | (with_reducible refine k_lstC ?_) | (with_reducible refine k_lstT ?_) | (with_reducible refine k_ltS ?_) | (with_reducible refine k_min2 ?_) | (with_reducible refine k_eqB ?_) | (with_reducible refine k_neB ?_) | (with_reducible refine k_slT ?_) | (with_reducible refine k_slL' ?_) | (with_reducible refine k_slC ?_) | (with_reducible refine k_strS ?_) | (with_reducible refine k_intI ?_) | (with_reducible refine k_intB ?_) | (with_reducible refine k_max2 ?_) | (with_reducible refine k_isxN ?_) | (with_reducible refine kp_kin ?_) | (with_reducible refine k_inT2 ?_) | (with_reducible refine k_inT3 ?_) | (with_reducible refine k_inT4 ?_) | (with_reducible refine k_inL2 ?_) | (with_reducible refine k_inL3 ?_) | (with_reducible refine k_inL4 ?_) | (with_reducible refine k_neg ?_) | ((with_reducible refine k_lenO (ds := ?_) ?_ ?_); rotate_left 1; rfl) | ((with_reducible refine k_tupO (ds := ?_) ?_ ?_); rotate_left 1; rfl) | ((with_reducible refine k_isi (t := ?_) ?_ ?_); rotate_left 1; rfl) | ((with_reducible refine k_is (z := ?_) ?_ ?_); rotate_left 1; rfl) | ((with_reducible refine k_isn (z := ?_) ?_ ?_); rotate_left 1; rfl) | ((with_reducible refine k_ixT (d := ?_) ?_ ?_); rotate_left 1; rfl) | ((with_reducible refine k_ixL (d := ?_) ?_ ?_); rotate_left 1; rfl) | ((with_reducible refine k_isx (z := ?_) ?_ ?_); rotate_left 1; rfl) | ((with_reducible refine k_fldG (fs := ?_) (d := ?_) ?_ ?_ ?_); rotate_left 2; rfl; rfl) | ((with_reducible refine kp_kix (y := ?_) ?_ ?_); rotate_left 1; rfl) | ((with_reducible refine k_ixO (ds := ?_) (d := ?_) ?_ ?_ ?_); rotate_left 2; rfl; rfl) | ((with_reducible refine k_lenS ?_ ?_); (first | omega | (simp; omega) | (with_reducible assumption) | decide)) | ((with_reducible refine k_mod ?_ ?_); (first | omega | (simp; omega) | (with_reducible assumption) | decide)) | ((with_reducible refine k_addS ?_ ?_); (first | omega | (simp; omega) | (with_reducible assumption) | decide)) | ((with_reducible refine k_mulI ?_ ?_); (first | omega | (simp; omega) | (with_reducible assumption) | decide)) | ((with_reducible refine k_addT ?_ ?_); (first | omega | (simp; omega) | (with_reducible assumption) | decide)) | ((with_reducible refine k_rep ?_ ?_); (first | omega | (simp; omega) | (with_reducible assumption) | decide)))) | ((with_reducible refine (show OkE _ _ _ from ?_)); (first | (with_reducible refine k_c ?_) | ((with_reducible refine k_v (d := ?_) ?_ ?_); rotate_left 1; rfl) | (with_reducible refine k_2 ?_) | (with_reducible refine k_1 ?_) | (with_reducible refine k_call ?_) | (with_reducible refine k_B ?_) | (with_reducible refine k_tup ?_) | (with_reducible refine k_lst ?_) | (with_reducible refine k_fld ?_) | (with_reducible refine k_new ?_) | (with_reducible refine k_sl2 ?_) | (with_reducible refine k_slL ?_) | (with_reducible refine k_slH ?_) | (with_reducible refine k_app ?_) | (with_reducible refine k_ext ?_) | (with_reducible refine k_bk ?_) | (with_reducible refine k_no ?_) | (with_reducible refine k_if ?_) | (with_reducible refine k_3B ?_) | (with_reducible refine k_m1 ?_) | (with_reducible refine k_m0 ?_) | (with_reducible refine k_cnt ?_) | (with_reducible refine k_meth ?_) | (with_reducible refine k_make ?_) | (with_reducible refine k_dget ?_) | (with_reducible refine k_dnew ?_) | (with_reducible refine k_dpop ?_) | (with_reducible refine k_an ?_))) | ((with_reducible refine (show OkS _ _ from ?_)); (first | (with_reducible refine k_seq ?_) | (with_reducible refine k_set ?_) | (with_reducible refine k_ret ?_) | (with_reducible refine k_sIf ?_) | (with_reducible refine k_for ?_) | (with_reducible refine k_forR ?_) | (with_reducible refine k_forG ?_) | (with_reducible refine k_pass ?_) | (with_reducible refine k_ex ?_) | (with_reducible refine k_retN ?_) | (with_reducible refine k_brk ?_) | (with_reducible refine k_cont ?_) | (with_reducible refine k_asg ?_) | (with_reducible refine k_setI ?_) | (with_reducible refine k_gc ?_) | (with_reducible refine k_forE ?_) | (with_reducible refine k_raise ?_) | (with_reducible refine k_tryAs ?_) | (with_reducible refine k_try ?_) | (with_reducible refine k_sFld ?_) | (with_reducible refine k_sSetD ?_) | (with_reducible refine k_sFldA ?_) | ((with_reducible refine k_aug (x := ?_) ?_ ?_); rotate_left 1; rfl) | ((with_reducible refine k_putI (ds := ?_) (k' := ?_) ?_ ?_ ?_); rotate_left 2; rfl; rfl))) | ((with_reducible refine (show OkB _ _ _ from ?_)); (first | (with_reducible refine k_tOf ?_) | (with_reducible refine k_tNo ?_) | (with_reducible refine k_tYs ?_) | (with_reducible refine k_tO ?_) | (with_reducible refine k_tAn ?_))) | ((with_reducible refine (show OkA _ _ _ from ?_)); (first | (with_reducible refine k_aC ?_) | (with_reducible refine k_aN ?_))) | ((with_reducible refine k_bnd ?_ ?_); (first | omega | (simp; omega) | skip)) | ((with_reducible refine k_condT ?_ ?_); rfl) | ((with_reducible refine k_condF ?_ ?_); rfl) | ((with_reducible refine And.intro ?_ ?_); (first | rfl | exact Nat.le_of_ble_eq_true rfl | omega | (simp; done))) | ((with_reducible refine k_exe (w := ?_) ?_ ?_); rotate_left 1; rfl))))
section
variable {T : Str} {S : Sto} {Q : QE} {X : QX}
theorem tree_tr {d : D} (h : treeB d = true) : sm 12 d := by
  unfold treeB at h
  simp only [Bool.and_eq_true, decide_eq_true_eq] at h
  exact good_sm 169 12 d h.1 h.2.2
theorem tree_gt {d : D} (h : treeB d = true) : Gt d := treeB_gt h (tr_mono (sm_tr (tree_tr h)) (by decide))
theorem mk_eq (d : D) (T : Str) : decide ((⟨(tt d).toArray⟩ : Str) = T) = decide (tt d = T.cps.toList) := by
  refine decide_eq_decide.mpr ⟨fun h => by rw [← h], fun h => str_ext (by rw [← h])⟩
theorem read_tree_s (hT : T.length ≤ 60000) (q : ∀ d, rdO T.cps.toList = some d → Q d S) (qx : rdO T.cps.toList = none → X "BadTree" S) : OkE (callS m_read_tree [.str T] S) Q X := by
  have hL : T.cps.toList.length = T.length := (slen T).symm
  refine OkE_call0 rfl ?_
  unfold m_read_tree
  refine k_fn0 ?_
  unfold b_read_tree
  unfold rdO at q qx
  walk_at "T"
  refine tree_from_s hT 12 170 (by decide) (a := 0) (Nat.zero_le _) (fun d r hd => ?_) fun hd => ?_
  · rw [List.drop_zero] at hd
    rw [hd] at q qx
    simp only at q qx
    have kk := pT_rd 12 _ _ _ hd
    have hw : wf 169 d := wf_mono (kk.w (by omega)) (by decide)
    have hdc := wf_cl hw
    walk_at "T"
    refine is_tree_s hw ?_
    cases ht : treeB d with
    | false =>
      rw [ht, if_neg (fun z => by cases z.1)] at qx
      walk_at "T"
      have := qx rfl
      first | exact this | exact ⟨rfl, this⟩
    | true =>
      have g := tree_gt ht
      rw [ht] at q qx
      walk_at "T"
      refine text_tree_s 169 d (tr_mono g.tr (by decide)) (by have := g.t; omega) ?_
      walk_at "T"
      rw [mk_eq]
      by_cases he : tt d = T.cps.toList
      · rw [if_pos ⟨rfl, he⟩] at q
        rw [decide_eq_true he]
        walk_at "T"
        have := q d rfl
        first | exact this | exact ⟨hdc, rfl, hdc, this⟩
      · rw [if_neg (fun z => he z.2)] at qx
        rw [decide_eq_false he]
        walk_at "T"
        have := qx rfl
        first | exact this | exact ⟨rfl, this⟩
  · rw [List.drop_zero] at hd
    rw [hd] at qx
    have := qx rfl
    first | exact this | exact ⟨rfl, this⟩
/-- what the law's reading tells -/
def rdD : Option D → D
  | some d => d
  | none => .lst []
theorem law_read_s (hT : T.length ≤ 60000) (q : Q (rdD (rdO T.cps.toList)) S) : OkE (callS m__law_read [.str T] S) Q X := by
  refine OkE_call0 rfl ?_
  unfold m__law_read
  refine k_fn0 ?_
  unfold b__law_read
  walk_at "T"
  refine read_tree_s hT (fun d hd => ?_) fun hd => ?_
  · rw [hd] at q
    have hc := tr_cl (tree_gt (rdO_some hd).1).tr
    walk_at "T"
    first | exact q | exact ⟨hc, rfl, hc, q⟩
  · rw [hd] at q
    refine ⟨true, rfl, fun _ => ?_, fun z => by cases z⟩
    walk_at "T"
    refine k_o ?_
    walk_at "T"
    refine k_o ?_
    walk_at "T"
    rw [show (if (!true) = true then (1 : Int) else 0) = 0 from rfl]
    refine k_mulL (xs := [.str "odd"]) (k := 0) ⟨by decide, by decide, by decide⟩ ?_
    have q : Q (.lst []) S := q
    first | exact q | exact ⟨rfl, rfl, rfl, q⟩
end
end Law

namespace Law
open PySem PySem.Spec PyProof.Rows L2 DL
local macro_rules | `(tactic| walk_at "T") => `(tactic| (repeat (first | ((with_reducible refine (show OkE (opt _ _) _ _ from ?_)); (first | (with_reducible refine k_addI ?_) | (with_reducible refine k_subI ?_) | (with_reducible refine k_eqI ?_) | (with_reducible refine k_neI ?_) | (with_reducible refine k_ltI ?_) | (with_reducible refine k_leI ?_) | (with_reducible refine k_gtI ?_) | (with_reducible refine k_geI ?_) | (with_reducible refine k_eqS ?_) | (with_reducible refine k_neS ?_) | (with_reducible refine k_lenT ?_) | (with_reducible refine k_lenL ?_) | (with_reducible refine k_lenC ?_) | (with_reducible refine k_tupT ?_) | (with_reducible refine k_tupL ?_) | (with_reducible refine k_lstL ?_) | (with_reducible refine k_lstC ?_) | (with_reducible refine k_lstT ?_) | (with_reducible refine k_ltS ?_) | (with_reducible refine k_min2 ?_) | (with_reducible refine k_eqB ?_) | (with_reducible refine k_neB ?_) | (with_reducible refine k_slT ?_) | (with_reducible refine k_slL' ?_) | (with_reducible refine k_slC ?_) | (with_reducible refine k_strS ?_) | (with_reducible refine k_intI ?_) | (with_reducible refine k_intB ?_) | (with_reducible refine k_max2 ?_) | (with_reducible refine k_isxN ?_) | (with_reducible refine kp_kin ?_) | (with_reducible refine k_inT2 ?_) | (with_reducible refine k_inT3 ?_) | (with_reducible refine k_inT4 ?_) | (with_reducible refine k_inL2 ?_) | (with_reducible refine k_inL3 ?_) | (with_reducible refine k_inL4 ?_) | (with_reducible refine k_neg ?_) | ((with_reducible refine k_lenO (ds := ?_) ?_ ?_); rotate_left 1; rfl) | ((with_reducible refine k_tupO (ds := ?_) ?_ ?_); rotate_left 1; rfl) | ((with_reducible refine k_isi (t := ?_) ?_ ?_); rotate_left 1; rfl) | ((with_reducible refine k_is (z := ?_) ?_ ?_); rotate_left 1; rfl) | ((with_reducible refine k_isn (z := ?_) ?_ ?_); rotate_left 1; rfl) | ((with_reducible refine k_ixT (d := ?_) ?_ ?_); rotate_left 1; rfl) | ((with_reducible refine k_ixL (d := ?_) ?_ ?_); rotate_left 1; rfl) | ((with_reducible refine k_isx (z := ?_) ?_ ?_); rotate_left 1; rfl) | ((with_reducible refine k_fldG (fs := ?_) (d := ?_) ?_ ?_ ?_); rotate_left 2; rfl; rfl) | ((with_reducible refine kp_kix (y := ?_) ?_ ?_); rotate_left 1; rfl) | ((with_reducible refine k_ixO (ds := ?_) (d := ?_) ?_ ?_ ?_); rotate_left 2; rfl; rfl) | ((with_reducible refine k_lenS ?_ ?_); (first | omega | (simp; omega) | (with_reducible assumption) | decide)) | ((with_reducible refine k_mod ?_ ?_); (first | omega | (simp; omega) | (with_reducible assumption) | decide)) | ((with_reducible refine k_addS ?_ ?_); (first | omega | (simp; omega) | (with_reducible assumption) | decide)) | ((with_reducible refine k_mulI ?_ ?_); (first | omega | (simp; omega) | (with_reducible assumption) | decide)) | ((with_reducible refine k_addT ?_ ?_); (first | omega | (simp; omega) | (with_reducible assumption) | decide)) | ((with_reducible refine k_rep ?_ ?_); (first | omega | (simp; omega) | (with_reducible assumption) | decide)))) | ((with_reducible refine (show OkE _ _ _ from ?_)); (first | (with_reducible refine k_c ?_) | ((with_reducible refine k_v (d := ?_) ?_ ?_); rotate_left 1; rfl) | (with_reducible refine k_2 ?_) | (with_reducible refine k_1 ?_) | (with_reducible refine k_call ?_) | (with_reducible refine k_B ?_) | (with_reducible refine k_tup ?_) | (with_reducible refine k_lst ?_) | (with_reducible refine k_fld ?_) | (with_reducible refine k_new ?_) | (with_reducible refine k_sl2 ?_) | (with_reducible refine k_slL ?_) | (with_reducible refine k_slH ?_) | (with_reducible refine k_app ?_) | (with_reducible refine k_ext ?_) | (with_reducible refine k_bk ?_) | (with_reducible refine k_no ?_) | (with_reducible refine k_if ?_) | (with_reducible refine k_3B ?_) | (with_reducible refine k_m1 ?_) | (with_reducible refine k_m0 ?_) | (with_reducible refine k_cnt ?_) | (with_reducible refine k_meth ?_) | (with_reducible refine k_make ?_) | (with_reducible refine k_dget ?_) | (with_reducible refine k_dnew ?_) | (with_reducible refine k_dpop ?_) | (with_reducible refine k_an ?_))) | ((with_reducible refine (show OkS _ _ from ?_)); (first | (with_reducible refine k_seq ?_) | (with_reducible refine k_set ?_) | (with_reducible refine k_ret ?_) | (with_reducible refine k_sIf ?_) | (with_reducible refine k_for ?_) | (with_reducible refine k_forR ?_) | (with_reducible refine k_forG ?_) | (with_reducible refine k_pass ?_) | (with_reducible refine k_ex ?_) | (with_reducible refine k_retN ?_) | (with_reducible refine k_brk ?_) | (with_reducible refine k_cont ?_) | (with_reducible refine k_asg ?_) | (with_reducible refine k_setI ?_) | (with_reducible refine k_gc ?_) | (with_reducible refine k_forE ?_) | (with_reducible refine k_raise ?_) | (with_reducible refine k_tryAs ?_) | (with_reducible refine k_try ?_) | (with_reducible refine k_sFld ?_) | (with_reducible refine k_sSetD ?_) | (with_reducible refine k_sFldA ?_) | ((with_reducible refine k_aug (x := ?_) ?_ ?_); rotate_left 1; rfl) | ((with_reducible refine k_putI (ds := ?_) (k' := ?_) ?_ ?_ ?_); rotate_left 2; rfl; rfl))) | ((with_reducible refine (show OkB _ _ _ from ?_)); (first | (with_reducible refine k_tOf ?_) | (with_reducible refine k_tNo ?_) | (with_reducible refine k_tYs ?_) | (with_reducible refine k_tO ?_) | (with_reducible refine k_tAn ?_))) | ((with_reducible refine (show OkA _ _ _ from ?_)); (first | (with_reducible refine k_aC ?_) | (with_reducible refine k_aN ?_))) | ((with_reducible refine k_bnd ?_ ?_); (first | omega | (simp; omega) | skip)) | ((with_reducible refine k_condT ?_ ?_); rfl) | ((with_reducible refine k_condF ?_ ?_); rfl) | ((with_reducible refine And.intro ?_ ?_); (first | rfl | exact Nat.le_of_ble_eq_true rfl | omega | (simp; done))) | ((with_reducible refine k_exe (w := ?_) ?_ ?_); rotate_left 1; rfl))))
/-! ### the law's reader -/
theorem sg_is {c c0 : Nat} {x : Str} (hx : x.cps.toList = [c0]) : decide ((⟨#[c]⟩ : Str) = x) = decide (c = c0) := by
  refine decide_eq_decide.mpr ⟨fun h => ?_, fun h => str_ext (by rw [hx, h])⟩
  have : [c] = [c0] := by rw [← hx, ← h]
  cases this; rfl
theorem k_ninL2 {x a b : Str} {S : Sto} {Q : QE} {X : QX} (q : Q (.bl (!decide (x ∈ [a, b]))) S) : OkE (opt (gNin S (.str x) (.lst [.str a, .str b])) S) Q X := by
  have : gNin S (.str x) (.lst ([a, b].map D.str)) = some (.bl (!decide (x ∈ [a, b]))) := by
    unfold gNin
    simp only [view, fla, flas_sR, inV_sR]
  have e : gNin S (.str x) (.lst [.str a, .str b]) = some (.bl (!decide (x ∈ [a, b]))) := this
  rw [e]; exact q
theorem cut_in {T : Str} {i : Nat} {x y : Str} {c d : Nat} (hx : x.cps.toList = [c]) (hy : y.cps.toList = [d]) : decide (cutS T (DL.part (D.int (i : Int))) (DL.part (D.int ((i : Int) + 1))) ∈ [x, y]) = (decide ((T.cps.toList.drop i).head? = some c) || decide ((T.cps.toList.drop i).head? = some d)) := by
  have h1 := cut_is (T := T) (i := i) hx
  have h2 := cut_is (T := T) (i := i) hy
  rw [← h1, ← h2, ← Bool.decide_or]
  exact decide_eq_decide.mpr (by simp)
section
variable {T : Str} {k : Nat} {S : Sto} {Q : QE} {X : QX}
theorem law_text_in_s {a : Nat} (hT : T.length ≤ 60000) (hk : S[k]? = some (.lst [.int a])) (ha : a ≤ T.length) (q : ∀ x r, lTx (T.cps.toList.drop a) = some (x, r) → Q (.str ⟨x.toArray⟩) (S.set k (.lst [.int ((T.length - r.length : Nat) : Int)])))
    (qn : lTx (T.cps.toList.drop a) = none → ∀ j : Int, Q .non (S.set k (.lst [.int j]))) : OkE (callS m__law_text_in [.str T, .obj k] S) Q X := by
  have hL : T.cps.toList.length = T.length := (slen T).symm
  refine OkE_callL hk rfl rfl rfl ?_
  simp only [List.map_cons, List.map_nil, mapO, List.idxOf_cons_self]
  have finS : ∀ {x : Str} {j : Int}, Q (.str x) (S.set k (.lst [.int j])) → (low 1 (still 1 [Cell.lst [.int j]] (.str x)) = true ∧ ([Cell.lst [.int j]].take 1).all (lowC 1) = true) ∧ ∃ ys, [Cell.lst [.int j]].take 1 = [.lst ys] ∧ cls ys = true ∧ cl (still 1 [Cell.lst [.int j]] (.str x)) = true ∧ Q (still 1 [Cell.lst [.int j]] (.str x)) (S.set k (.lst ys)) := fun {x j} h => ⟨⟨rfl, rfl⟩, _, rfl, rfl, rfl, h⟩
  have finN : ∀ {j : Int}, Q .non (S.set k (.lst [.int j])) → (low 1 (still 1 [Cell.lst [.int j]] .non) = true ∧ ([Cell.lst [.int j]].take 1).all (lowC 1) = true) ∧ ∃ ys, [Cell.lst [.int j]].take 1 = [.lst ys] ∧ cls ys = true ∧ cl (still 1 [Cell.lst [.int j]] .non) = true ∧ Q (still 1 [Cell.lst [.int j]] .non) (S.set k (.lst ys)) := fun {j} h => ⟨⟨rfl, rfl⟩, _, rfl, rfl, rfl, h⟩
  unfold m__law_text_in
  refine k_fnD ?_
  unfold b__law_text_in
  walk_at "T"
  refine OkS_wh (fun n e S' => ∃ (i : Nat) (f : Str) (y3 : Option D), e = [some (.str T), some (.obj 0), some (.str f), y3] ∧ S' = [.lst [.int i]] ∧ i ≤ T.length ∧ n = T.length - i ∧ f.length ≤ i ∧ lTx (T.cps.toList.drop a) = (lTx (T.cps.toList.drop i)).map (fun z => (f.cps.toList ++ z.1, z.2))) (n := T.length - a) ?_ ⟨a, "", none, rfl, rfl, ha, rfl, Nat.zero_le _, by cases lTx (T.cps.toList.drop a) <;> rfl⟩
  rintro n e S' ⟨i, f, y3, rfl, rfl, hi, rfl, hf, hm⟩
  walk_at "T"
  refine k_dec (fun hlt => ?_) fun hge => ?_
  · have hi1 : i < T.cps.toList.length := by omega
    have e2 : T.cps.toList.drop i = T.cps.toList[i] :: T.cps.toList.drop (i + 1) := List.drop_eq_getElem_cons hi1
    have e3 : T.cps.toList[i]? = some T.cps.toList[i] := List.getElem?_eq_getElem hi1
    generalize T.cps.toList[i] = c at e2 e3
    rw [e2] at hm
    walk_at "T"
    refine k_ixS (j := c) (by omega) (atI_nat (j := i) e3) ?_
    walk_at "T"
    rw [sg_is (c0 := 34) rfl]
    by_cases h34 : c = 34
    · subst h34
      rw [lTx_34] at hm
      rw [decide_eq_true rfl]
      walk_at "T"
      have hq := q _ _ hm
      have e1 : (T.length - (T.cps.toList.drop (i + 1)).length : Nat) = i + 1 := by rw [List.length_drop]; omega
      rw [e1] at hq
      have hx : (⟨(f.cps.toList ++ []).toArray⟩ : Str) = f := str_ext (by simp)
      rw [hx] at hq
      exact finS (j := (i : Int) + 1) hq
    · rw [decide_eq_false h34]
      walk_at "T"
      rw [sg_is (c0 := 92) rfl]
      by_cases h92 : c = 92
      · subst h92
        rw [decide_eq_true rfl]
        walk_at "T"
        rw [show ((i : Int) + 1) = ((i + 1 : Nat) : Int) from rfl]
        refine k_slS (by omega) ?_
        walk_at "T"
        refine k_ninL2 ?_
        rw [cut_in (c := 34) (d := 92) rfl rfl]
        by_cases hin : (T.cps.toList.drop (i + 1)).head? = some 34 ∨ (T.cps.toList.drop (i + 1)).head? = some 92
        · have hb : (decide ((T.cps.toList.drop (i + 1)).head? = some 34) || decide ((T.cps.toList.drop (i + 1)).head? = some 92)) = true := by
            rcases hin with h | h <;> rw [decide_eq_true h] <;> simp
          obtain ⟨c, hc, hcc⟩ : ∃ c, (T.cps.toList.drop (i + 1)).head? = some c ∧ (c = 34 ∨ c = 92) := by
            rcases hin with h | h
            · exact ⟨34, h, .inl rfl⟩
            · exact ⟨92, h, .inr rfl⟩
          obtain ⟨g1, g2, g3⟩ := drop_lt hc
          rw [g2, lTx_92, if_pos hcc] at hm
          rw [hb]
          walk_at "T"
          refine k_ixS (j := c) (by omega) (atI_nat (j := i + 1) g3) ?_
          walk_at "T"
          have hs1 : (⟨#[c]⟩ : Str).length = 1 := rfl
          refine ⟨T.length - (i + 2), by omega, i + 2, f ++ ⟨#[c]⟩, _, rfl, rfl, by omega, rfl, by rw [app_len, hs1]; omega, ?_⟩
          rw [hm]
          cases lTx (T.cps.toList.drop (i + 1 + 1)) with
          | none => rfl
          | some z => show some _ = some _; simp [pre, app_list]
        · have hb : (decide ((T.cps.toList.drop (i + 1)).head? = some 34) || decide ((T.cps.toList.drop (i + 1)).head? = some 92)) = false := by
            rw [decide_eq_false fun z => hin (.inl z), decide_eq_false fun z => hin (.inr z)]; rfl
          rw [hb]
          have hn : lTx (92 :: T.cps.toList.drop (i + 1)) = none := by
            cases q2 : T.cps.toList.drop (i + 1) with
            | nil => exact lTx_92n
            | cons e r =>
              rw [q2] at hin
              rw [lTx_92, if_neg fun z => hin (by rcases z with rfl | rfl; exact .inl rfl; exact .inr rfl)]
          rw [hn] at hm
          walk_at "T"
          exact finN (j := ((i + 1 : Nat) : Int)) (qn hm _)
      · rw [decide_eq_false h92]
        rw [lTx_o h34 h92] at hm
        walk_at "T"
        have hs1 : (⟨#[c]⟩ : Str).length = 1 := rfl
        refine ⟨T.length - (i + 1), by omega, i + 1, f ++ ⟨#[c]⟩, _, rfl, rfl, by omega, rfl, by rw [app_len, hs1]; omega, ?_⟩
        rw [hm]
        cases lTx (T.cps.toList.drop (i + 1)) with
        | none => rfl
        | some z => show some _ = some _; simp [pre, app_list]
  · have e1 : T.cps.toList.drop i = [] := List.drop_eq_nil_of_le (by omega)
    rw [e1] at hm
    walk_at "T"
    exact finN (j := (i : Int)) (qn hm _)
end
end Law

namespace Law
open PySem PySem.Spec PyProof.Rows L2 DL
local macro_rules | `(tactic| walk_at "T") => `(tactic| (repeat (first | ((with_reducible refine (show OkE (opt _ _) _ _ from ?_)); (first | (with_reducible refine k_addI ?_) | (with_reducible refine k_subI ?_) | (with_reducible refine k_eqI ?_) | (with_reducible refine k_neI ?_) | (with_reducible refine k_ltI ?_) | (with_reducible refine k_leI ?_) | (with_reducible refine k_gtI ?_) | (with_reducible refine k_geI ?_) | (with_reducible refine k_eqS ?_) | (with_reducible refine k_neS ?_) | (with_reducible refine k_lenT ?_) | (with_reducible refine k_lenL ?_) | (with_reducible refine k_lenC ?_) | (with_reducible refine k_tupT ?_) | (with_reducible refine k_tupL ?_) | (with_reducible refine k_lstL ?_) | (with_reducible refine k_lstC ?_) | (with_reducible refine k_lstT ?_) | (with_reducible refine k_ltS ?_) | (with_reducible refine k_min2 ?_) | (with_reducible refine k_eqB ?_) | (with_reducible refine k_neB ?_) | (with_reducible refine k_slT ?_) | (with_reducible refine k_slL' ?_) | (with_reducible refine k_slC ?_) | (with_reducible refine k_strS ?_) | (with_reducible refine k_intI ?_) | (with_reducible refine k_intB ?_) | (with_reducible refine k_max2 ?_) | (with_reducible refine k_isxN ?_) | (with_reducible refine kp_kin ?_) | (with_reducible refine k_inT2 ?_) | (with_reducible refine k_inT3 ?_) | (with_reducible refine k_inT4 ?_) | (with_reducible refine k_inL2 ?_) | (with_reducible refine k_inL3 ?_) | (with_reducible refine k_inL4 ?_) | (with_reducible refine k_neg ?_) | ((with_reducible refine k_lenO (ds := ?_) ?_ ?_); rotate_left 1; rfl) | ((with_reducible refine k_tupO (ds := ?_) ?_ ?_); rotate_left 1; rfl) | ((with_reducible refine k_isi (t := ?_) ?_ ?_); rotate_left 1; rfl) | ((with_reducible refine k_is (z := ?_) ?_ ?_); rotate_left 1; rfl) | ((with_reducible refine k_isn (z := ?_) ?_ ?_); rotate_left 1; rfl) | ((with_reducible refine k_ixT (d := ?_) ?_ ?_); rotate_left 1; rfl) | ((with_reducible refine k_ixL (d := ?_) ?_ ?_); rotate_left 1; rfl) | ((with_reducible refine k_isx (z := ?_) ?_ ?_); rotate_left 1; rfl) | ((with_reducible refine k_fldG (fs := ?_) (d := ?_) ?_ ?_ ?_); rotate_left 2; rfl; rfl) | ((with_reducible refine kp_kix (y := ?_) ?_ ?_); rotate_left 1; rfl) | ((with_reducible refine k_ixO (ds := ?_) (d := ?_) ?_ ?_ ?_); rotate_left 2; rfl; rfl) | ((with_reducible refine k_lenS ?_ ?_); (first | omega | (simp; omega) | (with_reducible assumption) | decide)) | ((with_reducible refine k_mod ?_ ?_); (first | omega | (simp; omega) | (with_reducible assumption) | decide)) | ((with_reducible refine k_addS ?_ ?_); (first | omega | (simp; omega) | (with_reducible assumption) | decide)) | ((with_reducible refine k_mulI ?_ ?_); (first | omega | (simp; omega) | (with_reducible assumption) | decide)) | ((with_reducible refine k_addT ?_ ?_); (first | omega | (simp; omega) | (with_reducible assumption) | decide)) | ((with_reducible refine k_rep ?_ ?_); (first | omega | (simp; omega) | (with_reducible assumption) | decide)))) | ((with_reducible refine (show OkE _ _ _ from ?_)); (first | (with_reducible refine k_c ?_) | ((with_reducible refine k_v (d := ?_) ?_ ?_); rotate_left 1; rfl) | (with_reducible refine k_2 ?_) | (with_reducible refine k_1 ?_) | (with_reducible refine k_call ?_) | (with_reducible refine k_B ?_) | (with_reducible refine k_tup ?_) | (with_reducible refine k_lst ?_) | (with_reducible refine k_fld ?_) | (with_reducible refine k_new ?_) | (with_reducible refine k_sl2 ?_) | (with_reducible refine k_slL ?_) | (with_reducible refine k_slH ?_) | (with_reducible refine k_app ?_) | (with_reducible refine k_ext ?_) | (with_reducible refine k_bk ?_) | (with_reducible refine k_no ?_) | (with_reducible refine k_if ?_) | (with_reducible refine k_3B ?_) | (with_reducible refine k_m1 ?_) | (with_reducible refine k_m0 ?_) | (with_reducible refine k_cnt ?_) | (with_reducible refine k_meth ?_) | (with_reducible refine k_make ?_) | (with_reducible refine k_dget ?_) | (with_reducible refine k_dnew ?_) | (with_reducible refine k_dpop ?_) | (with_reducible refine k_an ?_))) | ((with_reducible refine (show OkS _ _ from ?_)); (first | (with_reducible refine k_seq ?_) | (with_reducible refine k_set ?_) | (with_reducible refine k_ret ?_) | (with_reducible refine k_sIf ?_) | (with_reducible refine k_for ?_) | (with_reducible refine k_forR ?_) | (with_reducible refine k_forG ?_) | (with_reducible refine k_pass ?_) | (with_reducible refine k_ex ?_) | (with_reducible refine k_retN ?_) | (with_reducible refine k_brk ?_) | (with_reducible refine k_cont ?_) | (with_reducible refine k_asg ?_) | (with_reducible refine k_setI ?_) | (with_reducible refine k_gc ?_) | (with_reducible refine k_forE ?_) | (with_reducible refine k_raise ?_) | (with_reducible refine k_tryAs ?_) | (with_reducible refine k_try ?_) | (with_reducible refine k_sFld ?_) | (with_reducible refine k_sSetD ?_) | (with_reducible refine k_sFldA ?_) | ((with_reducible refine k_aug (x := ?_) ?_ ?_); rotate_left 1; rfl) | ((with_reducible refine k_putI (ds := ?_) (k' := ?_) ?_ ?_ ?_); rotate_left 2; rfl; rfl))) | ((with_reducible refine (show OkB _ _ _ from ?_)); (first | (with_reducible refine k_tOf ?_) | (with_reducible refine k_tNo ?_) | (with_reducible refine k_tYs ?_) | (with_reducible refine k_tO ?_) | (with_reducible refine k_tAn ?_))) | ((with_reducible refine (show OkA _ _ _ from ?_)); (first | (with_reducible refine k_aC ?_) | (with_reducible refine k_aN ?_))) | ((with_reducible refine k_bnd ?_ ?_); (first | omega | (simp; omega) | skip)) | ((with_reducible refine k_condT ?_ ?_); rfl) | ((with_reducible refine k_condF ?_ ?_); rfl) | ((with_reducible refine And.intro ?_ ?_); (first | rfl | exact Nat.le_of_ble_eq_true rfl | omega | (simp; done))) | ((with_reducible refine k_exe (w := ?_) ?_ ?_); rotate_left 1; rfl))))
theorem lT_kind : ∀ {n : Nat} {s : List Nat} {d : D} {r : List Nat}, lT n s = some (d, r) → (∃ x, d = .str x) ∨ ∃ ds, d = .tup ds
  | 0, s, d, r, h => by cases h
  | n + 1, s, d, r, h => by
    rw [lT] at h
    split at h
    · cases q : lTx s.tail with
      | none => rw [q] at h; cases h
      | some y => rw [q] at h; cases h; exact .inl ⟨_, rfl⟩
    · split at h
      · split at h
        · cases h; exact .inr ⟨_, rfl⟩
        · cases q : lR (lT n) (s.length + 1) s.tail with
          | none => rw [q] at h; cases h
          | some y => rw [q] at h; cases h; exact .inr ⟨_, rfl⟩
      · cases h
theorem kind_dis {d : D} (h : (∃ x, d = .str x) ∨ ∃ ds, d = .tup ds) : dis d .non = some false := by
  rcases h with ⟨x, rfl⟩ | ⟨ds, rfl⟩ <;> rfl
section
variable {T : Str}
theorem law_tree_in_s (hT : T.length ≤ 60000) : ∀ (n F : Nat), n ≤ F → ∀ {k a : Nat} {S : Sto} {Q : QE} {X : QX}, S[k]? = some (.lst [.int a]) → a ≤ T.length → (T.cps.toList.drop a).count 40 < n →
    (∀ d r, lT n (T.cps.toList.drop a) = some (d, r) → Q d (S.set k (.lst [.int ((T.length - r.length : Nat) : Int)]))) → (lT n (T.cps.toList.drop a) = none → ∀ j : Int, Q .non (S.set k (.lst [.int j]))) → OkE (callS (m__law_tree_in F) [.str T, .obj k] S) Q X := by
  have hL : T.cps.toList.length = T.length := (slen T).symm
  intro n
  induction n with
  | zero => intro F hF k a S Q X hk ha hc; omega
  | succ n ih =>
    intro F hF k a S Q X hk ha hc q qn
    obtain ⟨F, rfl⟩ : ∃ g, F = g + 1 := ⟨F - 1, by omega⟩
    refine OkE_callL hk rfl rfl rfl ?_
    simp only [List.map_cons, List.map_nil, mapO, List.idxOf_cons_self]
    have fin : ∀ {S' : Sto} {d : D} {j : Int}, cl d = true → S'[0]? = some (.lst [.int j]) → Q d (S.set k (.lst [.int j])) → (low 1 (still 1 S' d) = true ∧ (S'.take 1).all (lowC 1) = true) ∧ ∃ ys, S'.take 1 = [.lst ys] ∧ cls ys = true ∧ cl (still 1 S' d) = true ∧ Q (still 1 S' d) (S.set k (.lst ys)) := fun {S' d j} hd h0 h => by
      have h1 : S'.take 1 = [.lst [.int j]] := by
        cases S' with
        | nil => cases h0
        | cons x r => cases h0; rfl
      have hs : still 1 S' d = d := by cases d <;> first | rfl | cases hd
      rw [h1, hs]
      exact ⟨⟨cl_low hd, rfl⟩, _, rfl, rfl, hd, h⟩
    show OkE (fnD 5 (b__law_tree_in (m__law_tree_in F)) _ _) _ _
    refine k_fnD ?_
    unfold b__law_tree_in
    walk_at "T"
    refine k_slS (by omega) ?_
    walk_at "T"
    rw [cut_is (c := 34) rfl]
    rw [lT] at q qn
    by_cases h34 : (T.cps.toList.drop a).head? = some 34
    · obtain ⟨h1, h2, h3⟩ := drop_lt h34
      rw [if_pos h34, h2, List.tail_cons] at q qn
      rw [decide_eq_true h34]
      walk_at "T"
      rw [show ((a : Int) + 1) = ((a + 1 : Nat) : Int) from rfl]
      refine law_text_in_s (a := a + 1) hT rfl (by omega) (fun x r hx => ?_) fun hx j => ?_
      · exact fin rfl rfl (q _ _ (by rw [hx]; rfl))
      · exact fin rfl rfl (qn (by rw [hx]; rfl) j)
    · rw [if_neg h34] at q qn
      rw [decide_eq_false h34]
      walk_at "T"
      rw [cut_is (c := 40) rfl]
      by_cases h40 : (T.cps.toList.drop a).head? = some 40
      · obtain ⟨h1, h2, h3⟩ := drop_lt h40
        rw [if_pos h40, h2, List.tail_cons] at q qn
        rw [decide_eq_true h40]
        have hc1 : (T.cps.toList.drop (a + 1)).count 40 < n := by
          rw [h2, List.count_cons_self] at hc
          omega
        have hf0 : T.length - (a + 1) < (40 :: T.cps.toList.drop (a + 1)).length + 1 := by rw [List.length_cons, List.length_drop]; omega
        generalize (40 :: T.cps.toList.drop (a + 1)).length + 1 = f0 at q qn hf0
        have ha1 : a + 1 ≤ T.length := by omega
        walk_at "T"
        rw [show ((a : Int) + 1) = ((a + 1 : Nat) : Int) from rfl]
        refine k_slS (by omega) ?_
        walk_at "T"
        rw [cut_is (c := 41) rfl]
        by_cases h41 : (T.cps.toList.drop (a + 1)).head? = some 41
        · obtain ⟨g1, g2, g3⟩ := drop_lt h41
          rw [if_pos h41, g2, List.tail_cons] at q
          rw [decide_eq_true h41]
          walk_at "T"
          have e1 : (T.length - (T.cps.toList.drop (a + 1 + 1)).length : Nat) = a + 1 + 1 := by rw [List.length_drop]; omega
          have hq := q _ _ rfl
          rw [e1] at hq
          exact fin rfl rfl hq
        · rw [if_neg h41] at q qn
          rw [decide_eq_false h41]
          walk_at "T"
          have hs0 : ¬ cutS T (DL.part (D.int (a : Int))) (DL.part (D.int ((a : Int) + 1))) = ")" := of_decide_eq_false ((cut_is (T := T) (i := a) (x := ")") (c := 41) rfl).trans (by rw [h40]; decide))
          refine OkS_wh (fun m e S' => ∃ (i : Nat) (acc : List D) (sg : Str) (y4 : Option D), e = [some (.str T), some (.obj 0), some (.str sg), some (.obj 1), y4] ∧ S' = [.lst [.int i], .lst acc] ∧ i ≤ T.length ∧ acc.length ≤ i ∧ cls acc = true ∧ ((sg = ")" ∧ m = 0 ∧ lR (lT n) f0 (T.cps.toList.drop (a + 1)) = some (acc, T.cps.toList.drop i)) ∨ (¬ sg = ")" ∧ m = T.length - i + 1 ∧ (∃ f, T.length - i < f ∧ lR (lT n) f0 (T.cps.toList.drop (a + 1)) = (lR (lT n) f (T.cps.toList.drop i)).map (fun z => (acc ++ z.1, z.2))) ∧ (T.cps.toList.drop i).count 40 < n))) (n := T.length - (a + 1) + 1) ?_ ⟨a + 1, [], _, none, rfl, rfl, ha1, Nat.zero_le _, rfl, .inr ⟨hs0, rfl, ⟨f0, hf0, by cases lR (lT n) f0 (T.cps.toList.drop (a + 1)) <;> rfl⟩, hc1⟩⟩
          rintro m e S' ⟨i, acc, sg, y4, rfl, rfl, hi, hacc, hcl, hst⟩
          rcases hst with ⟨rfl, rfl, hm⟩ | ⟨hsg, rfl, ⟨f, hf, hm⟩, hcn⟩
          · walk_at "T"
            refine ⟨(fun z => by cases z), fun _ => ?_⟩
            walk_at "T"
            have hq := q _ _ (by rw [hm]; rfl)
            have e1 : (T.length - (T.cps.toList.drop i).length : Nat) = i := by rw [List.length_drop]; omega
            have hq : Q (.tup acc) (S.set k (.lst [.int ((T.length - (T.cps.toList.drop i).length : Nat) : Int)])) := hq
            rw [e1] at hq
            exact fin (S' := [.lst [.int i], .lst acc]) (d := .tup acc) hcl rfl hq
          · obtain ⟨f, rfl⟩ : ∃ g, f = g + 1 := ⟨f - 1, by omega⟩
            rw [lR] at hm
            walk_at "T"
            rw [decide_eq_false hsg]
            refine ⟨fun _ => ?_, (fun z => by cases z)⟩
            walk_at "T"
            refine ih F (by omega) (k := 0) rfl hi hcn (fun d r hd => ?_) fun hd j => ?_
            · rw [hd] at hm
              simp only at hm
              have kk := lT_ld n _ _ _ hd
              have htt := lT_tt n _ _ _ hd
              have hkd := lT_kind hd
              obtain ⟨r1, r2⟩ := suf_drop (l := T.cps.toList) (by omega) htt
              have hlt := kk.lt
              rw [List.length_drop] at hlt
              have hdc : cl d = true := wf_cl (kk.w (by rw [List.length_drop]; omega))
              have hcr : r.count 40 < n := by
                have : (T.cps.toList.drop i).count 40 = (tt d).count 40 + r.count 40 := by rw [htt, List.count_append]
                omega
              rw [hL] at r1
              have hi2 : T.length - r.length ≤ T.length := Nat.sub_le _ _
              have hi3 : i < T.length - r.length := by omega
              rw [r1] at hm hcr
              generalize T.length - r.length = i' at hm hcr hi2 hi3 ⊢
              clear r1 r2 htt hlt kk hd
              have hcl2 : cls (acc ++ [d]) = true := cls_of fun z hz => by
                rcases List.mem_append.mp hz with hz | hz
                · exact clsm hcl z hz
                · rw [List.mem_singleton.mp hz]; exact hdc
              have mp : ∀ o : Option (List D × List Nat), (o.map (preD d)).map (fun z => (acc ++ z.1, z.2)) = o.map (fun z => ((acc ++ [d]) ++ z.1, z.2)) := fun o => by
                cases o with
                | none => rfl
                | some z => show some _ = some _; simp [preD]
              walk_at "T"
              refine k_condF (by rcases hkd with ⟨x, rfl⟩ | ⟨ds, rfl⟩ <;> rfl) ?_
              walk_at "T"
              refine k_appI (n := 1) (ds := acc) rfl (by omega) ?_
              walk_at "T"
              refine k_slS (by omega) ?_
              walk_at "T"
              refine k_ninL2 ?_
              rw [cut_in (c := 32) (d := 41) rfl rfl]
              by_cases h32 : (T.cps.toList.drop i').head? = some 32
              · obtain ⟨g1, g2, g3⟩ := drop_lt h32
                rw [if_pos h32, mp] at hm
                rw [g2, List.tail_cons] at hm
                rw [g2, List.count_cons_of_ne (by decide)] at hcr
                rw [decide_eq_true h32, Bool.true_or]
                walk_at "T"
                refine ⟨T.length - (i' + 1) + 1, by omega, i' + 1, acc ++ [d], _, _, rfl, rfl, by omega, by simp; omega, hcl2, .inr ⟨?_, rfl, ⟨f, by omega, hm⟩, hcr⟩⟩
                exact of_decide_eq_false ((cut_is (T := T) (i := i') (x := ")") (c := 41) rfl).trans (by rw [h32]; decide))
              · rw [if_neg h32] at hm
                rw [decide_eq_false h32, Bool.false_or]
                by_cases h41' : (T.cps.toList.drop i').head? = some 41
                · obtain ⟨g1, g2, g3⟩ := drop_lt h41'
                  rw [if_pos h41'] at hm
                  rw [g2, List.tail_cons] at hm
                  rw [decide_eq_true h41']
                  walk_at "T"
                  refine ⟨0, by omega, i' + 1, acc ++ [d], _, _, rfl, rfl, by omega, by simp; omega, hcl2, .inl ⟨?_, rfl, hm⟩⟩
                  exact of_decide_eq_true ((cut_is (T := T) (i := i') (x := ")") (c := 41) rfl).trans (by rw [h41']; decide))
                · rw [if_neg h41'] at hm
                  rw [decide_eq_false h41']
                  walk_at "T"
                  exact fin (S' := [.lst [.int ((i' : Int) + 1)], .lst (acc ++ [d])]) rfl rfl (qn (by rw [hm]; rfl) _)
            · rw [hd] at hm
              walk_at "T"
              exact fin (S' := [.lst [.int j], .lst acc]) rfl rfl (qn (by rw [hm]; rfl) _)
      · rw [if_neg h40] at q qn
        rw [decide_eq_false h40]
        walk_at "T"
        exact fin rfl rfl (qn rfl _)
theorem law_due_s {S : Sto} {Q : QE} {X : QX} (hT : T.length ≤ 60000) (hc : T.cps.toList.count 40 < 160) (q : Q ((duO T.cps.toList).getD .non) S) : OkE (callS m__law_due [.str T] S) Q X := by
  have hL : T.cps.toList.length = T.length := (slen T).symm
  refine OkE_call0 rfl ?_
  unfold m__law_due
  refine k_fn0 ?_
  unfold b__law_due
  unfold duO at q
  walk_at "T"
  refine law_tree_in_s hT 160 170 (by decide) (k := 0) (a := 0) rfl (Nat.zero_le _) (by rw [List.drop_zero]; exact hc) (fun d r hd => ?_) fun hd j => ?_
  · rw [List.drop_zero] at hd
    rw [hd] at q
    simp only at q
    have kk := lT_ld 160 _ _ _ hd
    have hw : wf 169 d := wf_mono (kk.w (by omega)) (by decide)
    have hdc := wf_cl hw
    have hlt := kk.lt
    walk_at "T"
    have hkd := lT_kind hd
    refine k_condF (by rcases hkd with ⟨x, rfl⟩ | ⟨ds, rfl⟩ <;> rfl) ?_
    walk_at "T"
    by_cases hr : r = []
    · subst hr
      rw [show (T.length - ([] : List Nat).length : Nat) = T.length from rfl]
      walk_at "T"
      refine k_ndec (fun h => absurd rfl h) fun _ => ?_
      walk_at "T"
      refine law_is_tree_s hw ?_
      cases ht : treeB d with
      | true =>
        rw [ht, if_pos ⟨rfl, rfl⟩] at q
        have q : Q d S := q
        walk_at "T"
        first | exact q | exact ⟨hdc, rfl, hdc, q⟩
      | false =>
        rw [ht, if_neg (fun z => by cases z.2)] at q
        have q : Q .non S := q
        walk_at "T"
        first | exact q | exact ⟨rfl, rfl, rfl, q⟩
    · have hrl : 0 < r.length := List.length_pos_iff.mpr hr
      rw [if_neg (fun z => hr z.1)] at q
      have q : Q .non S := q
      refine k_ndec (fun _ => ?_) fun h => absurd h (by omega)
      walk_at "T"
      first | exact q | exact ⟨rfl, rfl, rfl, q⟩
  · rw [List.drop_zero] at hd
    rw [hd] at q
    walk_at "T"
    first | exact q | exact ⟨rfl, rfl, rfl, q⟩
end
end Law

namespace Law
open PySem PySem.Spec PyProof.Rows L2 DL
/-! ### trees alike -/
theorem tr_view {n : Nat} {d : D} (h : tr n d) (S : Sto) : view S d = d := by
  cases n <;> cases d <;> first | rfl | exact h.elim
/-! ### what is equal to a tree is it -/
theorem eqv_tr : ∀ (n : Nat) (d o : D) (p q : PyData), tr n d → pd d = some p → pd o = some q → PyData.eqv q p = true → o = d := by
  intro n
  have hst : ∀ (x : Str) (o : D) (q : PyData), pd o = some q → PyData.eqv q (.str x) = true → o = .str x := by
    intro x o q ho h
    cases o with
    | str y =>
      cases ho
      rw [PyData.eqv, beq_iff_eq] at h
      rw [h]
    | tup ds => rw [pd] at ho; cases hq : pds ds <;> rw [hq] at ho <;> cases ho; cases h
    | lst ds => rw [pd] at ho; cases hq : pds ds <;> rw [hq] at ho <;> cases ho; cases h
    | scr ds => rw [pd] at ho; cases hq : pds ds <;> rw [hq] at ho <;> cases ho; cases h
    | dct _ _ => cases ho
    | obj _ => cases ho
    | exn _ => cases ho
    | _ => cases ho; cases h
  induction n with
  | zero =>
    intro d o p q hd hp ho h
    cases d with
    | str x => cases hp; exact hst x o q ho h
    | _ => exact hd.elim
  | succ n ih =>
    intro d o p q hd hp ho h
    cases d with
    | str x => cases hp; exact hst x o q ho h
    | tup ds =>
      rw [pd] at hp
      cases hps : pds ds with
      | none => rw [hps] at hp; cases hp
      | some ps =>
        rw [hps] at hp
        cases hp
        cases o with
        | tup os =>
          rw [pd] at ho
          cases hqs : pds os with
          | none => rw [hqs] at ho; cases ho
          | some qs =>
            rw [hqs] at ho
            cases ho
            rw [PyData.eqv] at h
            have all : ∀ (ds os : List D) (ps qs : List PyData), (∀ d ∈ ds, tr n d) → pds ds = some ps → pds os = some qs → PyData.eqvAll qs ps = true → os = ds := by
              intro ds
              induction ds with
              | nil =>
                intro os ps qs _ hps hqs h
                cases hps
                cases os with
                | nil => rfl
                | cons o os =>
                  rw [pds] at hqs
                  split at hqs
                  · cases hqs; cases h
                  · cases hqs
              | cons d ds ihd =>
                intro os ps qs hall hps hqs h
                rw [pds] at hps
                split at hps
                · rename_i p1 ps1 e1 e2
                  cases hps
                  cases os with
                  | nil => cases hqs; cases h
                  | cons o os =>
                    rw [pds] at hqs
                    split at hqs
                    · rename_i q1 qs1 e3 e4
                      cases hqs
                      rw [PyData.eqvAll, Bool.and_eq_true] at h
                      rw [ih d o p1 q1 (hall d (by simp)) e1 e3 h.1, ihd os ps1 qs1 (fun z hz => hall z (by simp [hz])) e2 e4 h.2]
                    · cases hqs
                · cases hps
            rw [all ds os ps qs hd.2 hps hqs h]
        | lst os => rw [pd] at ho; cases hq : pds os <;> rw [hq] at ho <;> cases ho; cases h
        | scr os => rw [pd] at ho; cases hq : pds os <;> rw [hq] at ho <;> cases ho; cases h
        | dct _ _ => cases ho
        | obj _ => cases ho
        | exn _ => cases ho
        | _ => cases ho; cases h
    | _ => exact hd.elim
theorem pds_mem : ∀ {ds : List D} {ps : List PyData} {p : PyData}, pds ds = some ps → p ∈ ps → ∃ d ∈ ds, pd d = some p
  | [], ps, p, h, hp => by cases h; cases hp
  | d :: ds, ps, p, h, hp => by
    rw [pds] at h
    split at h
    · rename_i p1 ps1 e1 e2
      cases h
      rcases List.mem_cons.mp hp with rfl | hp
      · exact ⟨d, by simp, e1⟩
      · obtain ⟨d', h1, h2⟩ := pds_mem e2 hp
        exact ⟨d', by simp [h1], h2⟩
    · cases h
theorem pds_at : ∀ {ds : List D} {ps : List PyData} {d : D}, pds ds = some ps → d ∈ ds → ∃ p ∈ ps, pd d = some p
  | [], ps, d, h, hd => by cases hd
  | e :: ds, ps, d, h, hd => by
    rw [pds] at h
    split at h
    · rename_i p1 ps1 e1 e2
      cases h
      rcases List.mem_cons.mp hd with rfl | hd
      · exact ⟨p1, by simp, e1⟩
      · obtain ⟨p', h1, h2⟩ := pds_at e2 hd
        exact ⟨p', by simp [h1], h2⟩
    · cases h

/-! ### alike or not -/
noncomputable def sameD (a b : D) : Bool := @decide (a = b) (Classical.propDecidable _)
theorem sameD_iff {a b : D} : sameD a b = true ↔ a = b := by
  unfold sameD
  exact @decide_eq_true_iff _ (Classical.propDecidable _)
theorem sameD_no {a b : D} (h : ¬ a = b) : sameD a b = false := by
  cases q : sameD a b with
  | false => rfl
  | true => exact absurd (sameD_iff.mp q) h
theorem sameD_refl (a : D) : sameD a a = true := sameD_iff.mpr rfl
theorem sameD_comm (a b : D) : sameD a b = sameD b a := by
  by_cases h : a = b
  · rw [h]
  · rw [sameD_no h, sameD_no fun z => h z.symm]
def tn (n : Nat) (d : D) : Prop := d = .non ∨ tr n d
theorem tn_pd {n : Nat} {d : D} (h : tn n d) (hn : n ≤ 64) : ∃ p, pd d = some p ∧ SeqAt.shaped p = true := by
  rcases h with rfl | h
  · exact ⟨.none, rfl, by decide⟩
  · obtain ⟨p, h1, h2, h3⟩ := tr_pd h
    exact ⟨p, h1, by unfold SeqAt.shaped; rw [h2, decide_eq_true (by omega)]; rfl⟩
theorem deq0_tn {n : Nat} {a b : D} (ha : tn n a) (hb : tn n b) (hn : n ≤ 64) : deq0 a b = some (sameD a b) := by
  obtain ⟨p, h1, h2⟩ := tn_pd ha hn
  obtain ⟨q, h3, h4⟩ := tn_pd hb hn
  have e : PyData.eqv p q = sameD a b := by
    by_cases h : a = b
    · subst h
      rw [h1] at h3
      cases h3
      rw [sameD_refl]
      rcases ha with rfl | ha
      · cases h1; decide
      · obtain ⟨p', g1, g2, _⟩ := tr_pd ha
        rw [h1] at g1
        cases g1
        exact SeqAt.eqv_refl p g2
    · rw [sameD_no h]
      cases hq : PyData.eqv p q with
      | false => rfl
      | true =>
        refine absurd ?_ h
        rcases hb with rfl | hb
        · cases h3
          rcases ha with rfl | ha
          · rfl
          · have : ∀ d p, tr n d → pd d = some p → PyData.eqv p .none = true → d = .non := fun d p hd hp hh => by
              cases n <;> cases d <;> first | exact hd.elim | (cases hp; cases hh; done) | (rw [pd] at hp; rename_i ds; cases hq : pds ds <;> rw [hq] at hp <;> cases hp; cases hh)
            exact this a p ha h1 hq
        · exact eqv_tr n b a q p hb h3 h1 hq
  unfold deq0
  simp only [h1, h3, h2, h4, and_self, if_true, e]
theorem deq_tn {n : Nat} {a b : D} (ha : tn n a) (hb : tn n b) (hn : n ≤ 64) : deq a b = some (sameD a b) := by
  unfold deq
  split
  · rename_i x y hx hy
    split
    · have hinj : ∀ (c : D) (x : V), tn n c → fla c = some x → (c = .non ∧ x = .non) ∨ ∃ z, c = .str z ∧ x = .str z := fun c x hc hx => by
        rcases hc with rfl | hc
        · cases hx; exact .inl ⟨rfl, rfl⟩
        · cases n <;> cases c <;> first | exact hc.elim | (cases hx; exact .inr ⟨_, rfl, rfl⟩) | cases hx
      congr 1
      rcases hinj a x ha hx with ⟨rfl, rfl⟩ | ⟨z, rfl, rfl⟩ <;> rcases hinj b y hb hy with ⟨rfl, rfl⟩ | ⟨z2, rfl, rfl⟩
      · rw [sameD_refl]; rfl
      · rw [sameD_no (fun z => by cases z)]; simp
      · rw [sameD_no (fun z => by cases z)]; simp
      · by_cases h : z = z2
        · subst h; rw [sameD_refl]; simp
        · rw [sameD_no fun e => h (D.str.inj e)]; simp [h]
    · exact deq0_tn ha hb hn
  · exact deq0_tn ha hb hn
theorem tn_view {n : Nat} {d : D} (h : tn n d) (S : Sto) : view S d = d := by
  rcases h with rfl | h
  · rfl
  · exact tr_view h S
theorem k_eqT {n : Nat} {a b : D} (ha : tn n a) (hb : tn n b) (hn : n ≤ 64) {S : Sto} {Q : QE} {X : QX} (q : Q (.bl (sameD a b)) S) : OkE (opt (gEq S a b) S) Q X := by
  refine k_opt (d := .bl (sameD a b)) ?_ q
  unfold gEq
  rw [tn_view ha, tn_view hb, deq_tn ha hb hn]
  rfl
theorem k_neT {n : Nat} {a b : D} (ha : tn n a) (hb : tn n b) (hn : n ≤ 64) {S : Sto} {Q : QE} {X : QX} (q : Q (.bl (!sameD a b)) S) : OkE (opt (gNe S a b) S) Q X := by
  refine k_opt (d := .bl (!sameD a b)) ?_ q
  unfold gNe
  rw [tn_view ha, tn_view hb, deq_tn ha hb hn]
  rfl
end Law

namespace Law
open PySem PySem.Spec PyProof.Rows L2 DL
local macro_rules | `(tactic| walk_at "T") => `(tactic| (repeat (first | ((with_reducible refine (show OkE (opt _ _) _ _ from ?_)); (first | (with_reducible refine k_addI ?_) | (with_reducible refine k_subI ?_) | (with_reducible refine k_eqI ?_) | (with_reducible refine k_neI ?_) | (with_reducible refine k_ltI ?_) | (with_reducible refine k_leI ?_) | (with_reducible refine k_gtI ?_) | (with_reducible refine k_geI ?_) | (with_reducible refine k_eqS ?_) | (with_reducible refine k_neS ?_) | (with_reducible refine k_lenT ?_) | (with_reducible refine k_lenL ?_) | (with_reducible refine k_lenC ?_) | (with_reducible refine k_tupT ?_) | (with_reducible refine k_tupL ?_) | (with_reducible refine k_lstL ?_) | (with_reducible refine k_lstC ?_) | (with_reducible refine k_lstT ?_) | (with_reducible refine k_ltS ?_) | (with_reducible refine k_min2 ?_) | (with_reducible refine k_eqB ?_) | (with_reducible refine k_neB ?_) | (with_reducible refine k_slT ?_) | (with_reducible refine k_slL' ?_) | (with_reducible refine k_slC ?_) | (with_reducible refine k_strS ?_) | (with_reducible refine k_intI ?_) | (with_reducible refine k_intB ?_) | (with_reducible refine k_max2 ?_) | (with_reducible refine k_isxN ?_) | (with_reducible refine kp_kin ?_) | (with_reducible refine k_inT2 ?_) | (with_reducible refine k_inT3 ?_) | (with_reducible refine k_inT4 ?_) | (with_reducible refine k_inL2 ?_) | (with_reducible refine k_inL3 ?_) | (with_reducible refine k_inL4 ?_) | (with_reducible refine k_neg ?_) | ((with_reducible refine k_lenO (ds := ?_) ?_ ?_); rotate_left 1; rfl) | ((with_reducible refine k_tupO (ds := ?_) ?_ ?_); rotate_left 1; rfl) | ((with_reducible refine k_isi (t := ?_) ?_ ?_); rotate_left 1; rfl) | ((with_reducible refine k_is (z := ?_) ?_ ?_); rotate_left 1; rfl) | ((with_reducible refine k_isn (z := ?_) ?_ ?_); rotate_left 1; rfl) | ((with_reducible refine k_ixT (d := ?_) ?_ ?_); rotate_left 1; rfl) | ((with_reducible refine k_ixL (d := ?_) ?_ ?_); rotate_left 1; rfl) | ((with_reducible refine k_isx (z := ?_) ?_ ?_); rotate_left 1; rfl) | ((with_reducible refine k_fldG (fs := ?_) (d := ?_) ?_ ?_ ?_); rotate_left 2; rfl; rfl) | ((with_reducible refine kp_kix (y := ?_) ?_ ?_); rotate_left 1; rfl) | ((with_reducible refine k_ixO (ds := ?_) (d := ?_) ?_ ?_ ?_); rotate_left 2; rfl; rfl) | ((with_reducible refine k_lenS ?_ ?_); (first | omega | (simp; omega) | (with_reducible assumption) | decide)) | ((with_reducible refine k_mod ?_ ?_); (first | omega | (simp; omega) | (with_reducible assumption) | decide)) | ((with_reducible refine k_addS ?_ ?_); (first | omega | (simp; omega) | (with_reducible assumption) | decide)) | ((with_reducible refine k_mulI ?_ ?_); (first | omega | (simp; omega) | (with_reducible assumption) | decide)) | ((with_reducible refine k_addT ?_ ?_); (first | omega | (simp; omega) | (with_reducible assumption) | decide)) | ((with_reducible refine k_rep ?_ ?_); (first | omega | (simp; omega) | (with_reducible assumption) | decide)))) | ((with_reducible refine (show OkE _ _ _ from ?_)); (first | (with_reducible refine k_c ?_) | ((with_reducible refine k_v (d := ?_) ?_ ?_); rotate_left 1; rfl) | (with_reducible refine k_2 ?_) | (with_reducible refine k_1 ?_) | (with_reducible refine k_call ?_) | (with_reducible refine k_B ?_) | (with_reducible refine k_tup ?_) | (with_reducible refine k_lst ?_) | (with_reducible refine k_fld ?_) | (with_reducible refine k_new ?_) | (with_reducible refine k_sl2 ?_) | (with_reducible refine k_slL ?_) | (with_reducible refine k_slH ?_) | (with_reducible refine k_app ?_) | (with_reducible refine k_ext ?_) | (with_reducible refine k_bk ?_) | (with_reducible refine k_no ?_) | (with_reducible refine k_if ?_) | (with_reducible refine k_3B ?_) | (with_reducible refine k_m1 ?_) | (with_reducible refine k_m0 ?_) | (with_reducible refine k_cnt ?_) | (with_reducible refine k_meth ?_) | (with_reducible refine k_make ?_) | (with_reducible refine k_dget ?_) | (with_reducible refine k_dnew ?_) | (with_reducible refine k_dpop ?_) | (with_reducible refine k_an ?_))) | ((with_reducible refine (show OkS _ _ from ?_)); (first | (with_reducible refine k_seq ?_) | (with_reducible refine k_set ?_) | (with_reducible refine k_ret ?_) | (with_reducible refine k_sIf ?_) | (with_reducible refine k_for ?_) | (with_reducible refine k_forR ?_) | (with_reducible refine k_forG ?_) | (with_reducible refine k_pass ?_) | (with_reducible refine k_ex ?_) | (with_reducible refine k_retN ?_) | (with_reducible refine k_brk ?_) | (with_reducible refine k_cont ?_) | (with_reducible refine k_asg ?_) | (with_reducible refine k_setI ?_) | (with_reducible refine k_gc ?_) | (with_reducible refine k_forE ?_) | (with_reducible refine k_raise ?_) | (with_reducible refine k_tryAs ?_) | (with_reducible refine k_try ?_) | (with_reducible refine k_sFld ?_) | (with_reducible refine k_sSetD ?_) | (with_reducible refine k_sFldA ?_) | ((with_reducible refine k_aug (x := ?_) ?_ ?_); rotate_left 1; rfl) | ((with_reducible refine k_putI (ds := ?_) (k' := ?_) ?_ ?_ ?_); rotate_left 2; rfl; rfl))) | ((with_reducible refine (show OkB _ _ _ from ?_)); (first | (with_reducible refine k_tOf ?_) | (with_reducible refine k_tNo ?_) | (with_reducible refine k_tYs ?_) | (with_reducible refine k_tO ?_) | (with_reducible refine k_tAn ?_))) | ((with_reducible refine (show OkA _ _ _ from ?_)); (first | (with_reducible refine k_aC ?_) | (with_reducible refine k_aN ?_))) | ((with_reducible refine k_bnd ?_ ?_); (first | omega | (simp; omega) | skip)) | ((with_reducible refine k_condT ?_ ?_); rfl) | ((with_reducible refine k_condF ?_ ?_); rfl) | ((with_reducible refine And.intro ?_ ?_); (first | rfl | exact Nat.le_of_ble_eq_true rfl | omega | (simp; done))) | ((with_reducible refine k_exe (w := ?_) ?_ ?_); rotate_left 1; rfl))))
/-! ### written by the law -/
theorem tr_vk {n : Nat} {d : D} (h : tr n d) : (∃ x, d = .str x ∧ x.length ≤ 1000) ∨ ∃ ds, d = .tup ds := by
  cases n <;> cases d <;> first | exact h.elim | exact .inl ⟨_, rfl, h.1⟩ | exact .inr ⟨_, rfl⟩
theorem q_in (c : Nat) : decide ((⟨#[c]⟩ : Str) ∈ (["\"", "\\"] : List Str)) = (decide (c = 34) || decide (c = 92)) := by
  have h1 := sg_is (c := c) (x := "\"") (c0 := 34) rfl
  have h2 := sg_is (c := c) (x := "\\") (c0 := 92) rfl
  rw [← h1, ← h2, ← Bool.decide_or]
  exact decide_eq_decide.mpr (by simp)
theorem written_str (r : MF) {x : Str} (hx : x.length ≤ 1000) {Q : QE} {X : QX} (h : Q (.str ⟨(tt (.str x)).toArray⟩) []) : OkE (fnD 4 (b__law_written r) [.str x] []) Q X := by
  refine k_fn0 ?_
  unfold b__law_written
  walk_at "T"
  refine OkS_for (fun i e S' => ∃ (f : Str) (y2 : Option D), e = [some (.str x), some (.str f), y2, none] ∧ S' = [] ∧ f.cps.toList = esc (x.cps.toList.take i)) (k := 0) ⟨"", none, rfl, rfl, rfl⟩ ?_ ?_
  · rintro i d _ _ hdi ⟨f, y2, rfl, rfl, hf⟩
    rw [Nat.zero_add] at hf ⊢
    have hi : i < x.cps.toList.length := by
      have := (List.getElem?_eq_some_iff.mp hdi).1
      simpa [DL.signs] using this
    have hd : d = .str ⟨#[x.cps.toList[i]]⟩ := by
      have h1 : (DL.signs x)[i]? = some (.str ⟨#[x.cps.toList[i]]⟩) := by
        unfold DL.signs
        rw [List.getElem?_map, List.getElem?_eq_getElem hi]; rfl
      rw [h1] at hdi
      cases hdi; rfl
    have htk : x.cps.toList.take (i + 1) = x.cps.toList.take i ++ [x.cps.toList[i]] := by rw [List.take_add_one, List.getElem?_eq_getElem hi]; rfl
    generalize x.cps.toList[i] = c at hd htk
    subst hd
    have hfl : f.length ≤ 2 * i := by
      have := esc_len (x.cps.toList.take i)
      rw [slen, hf]
      rw [List.length_take] at this
      omega
    have hi2 : i < x.length := by rw [slen]; exact hi
    have h1 : ("\\" : Str).length = 1 := rfl
    have h2 : (⟨#[c]⟩ : Str).length = 1 := rfl
    have h3 : ("\\" : Str).cps.toList = [92] := rfl
    have he : esc (x.cps.toList.take (i + 1)) = f.cps.toList ++ esc1 c := by rw [htk]; unfold esc; rw [List.flatMap_append]; simp [esc] at hf; simp [hf]
    refine ⟨rfl, _, rfl, ?_⟩
    walk_at "T"
    rw [q_in]
    by_cases h34 : c = 34 ∨ c = 92
    · have hb : (decide (c = 34) || decide (c = 92)) = true := by rcases h34 with h | h <;> simp [h]
      have hes : esc1 c = [92, c] := by rcases h34 with rfl | rfl <;> rfl
      rw [hb]
      walk_at "T"
      refine ⟨_, _, rfl, rfl, ?_⟩
      rw [he, hes, app_list, app_list, h3]
      simp
    · have hb : (decide (c = 34) || decide (c = 92)) = false := by simp at h34; simp [h34]
      have hes : esc1 c = [c] := by unfold esc1; rw [if_neg fun z => h34 (.inr z), if_neg fun z => h34 (.inl z)]
      rw [hb]
      walk_at "T"
      refine ⟨_, _, rfl, rfl, ?_⟩
      rw [he, hes, app_list]
  · rintro _ _ ⟨f, y2, rfl, rfl, hf⟩
    have hlen : 0 + (DL.signs x).length = x.length := by simp [DL.signs, slen]
    rw [hlen, slen, List.take_length] at hf
    have hfl : f.length ≤ 2000 := by
      have := esc_len x.cps.toList
      rw [slen, hf]
      rw [slen] at hx
      omega
    have h3 : ("\"" : Str).length = 1 := rfl
    refine ⟨rfl, ?_⟩
    walk_at "T"
    have e : "\"" ++ f ++ "\"" = (⟨(tt (.str x)).toArray⟩ : Str) := by
      refine str_ext ?_
      rw [app_list, app_list, hf]
      rfl
    rw [e]
    first | exact h | exact ⟨rfl, h⟩
theorem written_s : ∀ (n : Nat) (d : D), tr n d → (tt d).length ≤ 1000000 → ∀ {S : Sto} {Q : QE} {X : QX}, Q (.str ⟨(tt d).toArray⟩) S → OkE (callS (m__law_written (n + 1)) [d] S) Q X := by
  intro n
  induction n with
  | zero =>
    intro d hd hl S Q X h
    refine OkE_call0 (by simp [tr_cl hd]) ?_
    cases d <;> first | exact hd.elim | skip
    exact written_str _ hd.1 ⟨rfl, rfl, h⟩
  | succ n ih =>
    intro d hd hl S Q X h
    refine OkE_call0 (by simp [tr_cl hd]) ?_
    cases d <;> first | exact False.elim hd | skip
    · exact written_str _ hd.1 ⟨rfl, rfl, h⟩
    · rename_i ds
      show OkE (fnD 4 (b__law_written (m__law_written (n + 1))) [.tup ds] []) _ _
      refine k_fn0 ?_
      unfold b__law_written
      have hl2 : (tts ds).length + 2 ≤ 1000000 := by
        rw [tt, List.length_cons, List.length_append] at hl
        simpa using hl
      have hl3 := tts_len ds
      have hl4 := ttr_sum ds
      have hl5 := hd.1
      walk_at "T"
      refine k_lcMap (f := fun d => .str ⟨(tt d).toArray⟩) ?_
      walk_at "T"
      refine ⟨fun z hz => ⟨_, rfl, ?_⟩, ?_⟩
      · walk_at "T"
        have := ttr_mem hz
        refine ih z (hd.2 z hz) (by omega) ?_
        exact ⟨rfl, rfl⟩
      have h1 : (" " : Str).length = 1 := rfl
      have h2 : ("(" : Str).length = 1 := rfl
      have h3 : (")" : Str).length = 1 := rfl
      refine k_joinL (strL_map ds) (by rw [h1, List.length_map]; omega) ?_
      have hj := join_tts ds
      have hjl : (Txt.join " " (ds.map fun d => (Str.mk (tt d).toArray))).length = (tts ds).length := by rw [slen, hj]
      refine k_addS (by rw [h2, hjl]; omega) ?_
      walk_at "T"
      have e : "(" ++ Txt.join " " (ds.map fun d => (Str.mk (tt d).toArray)) ++ ")" = (⟨(tt (.tup ds)).toArray⟩ : Str) := by
        refine str_ext ?_
        rw [app_list, app_list, hj]
        rfl
      rw [e]
      exact h
end Law

namespace Law
open PySem PySem.Spec PyProof.Rows L2 DL
local macro_rules | `(tactic| walk_at "T") => `(tactic| (repeat (first | ((with_reducible refine (show OkE (opt _ _) _ _ from ?_)); (first | (with_reducible refine k_addI ?_) | (with_reducible refine k_subI ?_) | (with_reducible refine k_eqI ?_) | (with_reducible refine k_neI ?_) | (with_reducible refine k_ltI ?_) | (with_reducible refine k_leI ?_) | (with_reducible refine k_gtI ?_) | (with_reducible refine k_geI ?_) | (with_reducible refine k_eqS ?_) | (with_reducible refine k_neS ?_) | (with_reducible refine k_lenT ?_) | (with_reducible refine k_lenL ?_) | (with_reducible refine k_lenC ?_) | (with_reducible refine k_tupT ?_) | (with_reducible refine k_tupL ?_) | (with_reducible refine k_lstL ?_) | (with_reducible refine k_lstC ?_) | (with_reducible refine k_lstT ?_) | (with_reducible refine k_ltS ?_) | (with_reducible refine k_min2 ?_) | (with_reducible refine k_eqB ?_) | (with_reducible refine k_neB ?_) | (with_reducible refine k_slT ?_) | (with_reducible refine k_slL' ?_) | (with_reducible refine k_slC ?_) | (with_reducible refine k_strS ?_) | (with_reducible refine k_intI ?_) | (with_reducible refine k_intB ?_) | (with_reducible refine k_max2 ?_) | (with_reducible refine k_isxN ?_) | (with_reducible refine kp_kin ?_) | (with_reducible refine k_inT2 ?_) | (with_reducible refine k_inT3 ?_) | (with_reducible refine k_inT4 ?_) | (with_reducible refine k_inL2 ?_) | (with_reducible refine k_inL3 ?_) | (with_reducible refine k_inL4 ?_) | (with_reducible refine k_neg ?_) | ((with_reducible refine k_lenO (ds := ?_) ?_ ?_); rotate_left 1; rfl) | ((with_reducible refine k_tupO (ds := ?_) ?_ ?_); rotate_left 1; rfl) | ((with_reducible refine k_isi (t := ?_) ?_ ?_); rotate_left 1; rfl) | ((with_reducible refine k_is (z := ?_) ?_ ?_); rotate_left 1; rfl) | ((with_reducible refine k_isn (z := ?_) ?_ ?_); rotate_left 1; rfl) | ((with_reducible refine k_ixT (d := ?_) ?_ ?_); rotate_left 1; rfl) | ((with_reducible refine k_ixL (d := ?_) ?_ ?_); rotate_left 1; rfl) | ((with_reducible refine k_isx (z := ?_) ?_ ?_); rotate_left 1; rfl) | ((with_reducible refine k_fldG (fs := ?_) (d := ?_) ?_ ?_ ?_); rotate_left 2; rfl; rfl) | ((with_reducible refine kp_kix (y := ?_) ?_ ?_); rotate_left 1; rfl) | ((with_reducible refine k_ixO (ds := ?_) (d := ?_) ?_ ?_ ?_); rotate_left 2; rfl; rfl) | ((with_reducible refine k_lenS ?_ ?_); (first | omega | (simp; omega) | (with_reducible assumption) | decide)) | ((with_reducible refine k_mod ?_ ?_); (first | omega | (simp; omega) | (with_reducible assumption) | decide)) | ((with_reducible refine k_addS ?_ ?_); (first | omega | (simp; omega) | (with_reducible assumption) | decide)) | ((with_reducible refine k_mulI ?_ ?_); (first | omega | (simp; omega) | (with_reducible assumption) | decide)) | ((with_reducible refine k_addT ?_ ?_); (first | omega | (simp; omega) | (with_reducible assumption) | decide)) | ((with_reducible refine k_rep ?_ ?_); (first | omega | (simp; omega) | (with_reducible assumption) | decide)))) | ((with_reducible refine (show OkE _ _ _ from ?_)); (first | (with_reducible refine k_c ?_) | ((with_reducible refine k_v (d := ?_) ?_ ?_); rotate_left 1; rfl) | (with_reducible refine k_2 ?_) | (with_reducible refine k_1 ?_) | (with_reducible refine k_call ?_) | (with_reducible refine k_B ?_) | (with_reducible refine k_tup ?_) | (with_reducible refine k_lst ?_) | (with_reducible refine k_fld ?_) | (with_reducible refine k_new ?_) | (with_reducible refine k_sl2 ?_) | (with_reducible refine k_slL ?_) | (with_reducible refine k_slH ?_) | (with_reducible refine k_app ?_) | (with_reducible refine k_ext ?_) | (with_reducible refine k_bk ?_) | (with_reducible refine k_no ?_) | (with_reducible refine k_if ?_) | (with_reducible refine k_3B ?_) | (with_reducible refine k_m1 ?_) | (with_reducible refine k_m0 ?_) | (with_reducible refine k_cnt ?_) | (with_reducible refine k_meth ?_) | (with_reducible refine k_make ?_) | (with_reducible refine k_dget ?_) | (with_reducible refine k_dnew ?_) | (with_reducible refine k_dpop ?_) | (with_reducible refine k_an ?_))) | ((with_reducible refine (show OkS _ _ from ?_)); (first | (with_reducible refine k_seq ?_) | (with_reducible refine k_set ?_) | (with_reducible refine k_ret ?_) | (with_reducible refine k_sIf ?_) | (with_reducible refine k_for ?_) | (with_reducible refine k_forR ?_) | (with_reducible refine k_forG ?_) | (with_reducible refine k_pass ?_) | (with_reducible refine k_ex ?_) | (with_reducible refine k_retN ?_) | (with_reducible refine k_brk ?_) | (with_reducible refine k_cont ?_) | (with_reducible refine k_asg ?_) | (with_reducible refine k_setI ?_) | (with_reducible refine k_gc ?_) | (with_reducible refine k_forE ?_) | (with_reducible refine k_raise ?_) | (with_reducible refine k_tryAs ?_) | (with_reducible refine k_try ?_) | (with_reducible refine k_sFld ?_) | (with_reducible refine k_sSetD ?_) | (with_reducible refine k_sFldA ?_) | ((with_reducible refine k_aug (x := ?_) ?_ ?_); rotate_left 1; rfl) | ((with_reducible refine k_putI (ds := ?_) (k' := ?_) ?_ ?_ ?_); rotate_left 2; rfl; rfl))) | ((with_reducible refine (show OkB _ _ _ from ?_)); (first | (with_reducible refine k_tOf ?_) | (with_reducible refine k_tNo ?_) | (with_reducible refine k_tYs ?_) | (with_reducible refine k_tO ?_) | (with_reducible refine k_tAn ?_))) | ((with_reducible refine (show OkA _ _ _ from ?_)); (first | (with_reducible refine k_aC ?_) | (with_reducible refine k_aN ?_))) | ((with_reducible refine k_bnd ?_ ?_); (first | omega | (simp; omega) | skip)) | ((with_reducible refine k_condT ?_ ?_); rfl) | ((with_reducible refine k_condF ?_ ?_); rfl) | ((with_reducible refine And.intro ?_ ?_); (first | rfl | exact Nat.le_of_ble_eq_true rfl | omega | (simp; done))) | ((with_reducible refine k_exe (w := ?_) ?_ ?_); rotate_left 1; rfl))))
/-! ### a changed text -/
theorem tk (l : List Nat) (n k : Nat) : ((l.take n).count 40 + (l.drop k).count 40 ≤ l.count 40 + (n - k)) ∧ (l.take n).length + (l.drop k).length ≤ l.length + (n - k) := by
  have h0 : l.count 40 = (l.take n).count 40 + (l.drop n).count 40 := by rw [← List.count_append, List.take_append_drop]
  constructor
  · by_cases h : k ≤ n
    · have h1 : l.drop k = (l.drop k).take (n - k) ++ l.drop n := by
        have := List.take_append_drop (n - k) (l.drop k)
        rw [List.drop_drop, show k + (n - k) = n by omega] at this
        exact this.symm
      have h2 : ((l.drop k).take (n - k)).count 40 ≤ n - k := Nat.le_trans List.count_le_length (by rw [List.length_take]; omega)
      have h3 : (l.drop k).count 40 = ((l.drop k).take (n - k)).count 40 + (l.drop n).count 40 := by rw [← List.count_append, ← h1]
      omega
    · have h1 : l.drop k = (l.drop n).drop (k - n) := by rw [List.drop_drop, show n + (k - n) = k by omega]
      have h2 : (l.drop k).count 40 ≤ (l.drop n).count 40 := by rw [h1]; exact (List.drop_sublist _ _).count_le _
      omega
  · rw [List.length_take, List.length_drop]; omega
/-- a little longer at most -/
structure Ch (t w : Str) : Prop where
  l : w.length ≤ t.length + 3
  c : w.cps.toList.count 40 ≤ t.cps.toList.count 40 + 3
theorem ch_cut {t : Str} {n k : Nat} {u v : Str} (hu : u.cps.toList = t.cps.toList.take n) (hv : v.cps.toList = t.cps.toList.drop k) (h : n ≤ k + 3) : Ch t (u ++ v) := by
  obtain ⟨h1, h2⟩ := tk t.cps.toList n k
  refine ⟨?_, ?_⟩
  · rw [slen, app_list, List.length_append, hu, hv, slen]; omega
  · rw [app_list, List.count_append, hu, hv]; omega
theorem ch_put {t : Str} {n k c : Nat} {u v : Str} (hu : u.cps.toList = t.cps.toList.take n) (hv : v.cps.toList = t.cps.toList.drop k) (h : n ≤ k) : Ch t (u ++ ⟨#[c]⟩ ++ v) := by
  obtain ⟨h1, h2⟩ := tk t.cps.toList n k
  have h3 : [c].count 40 ≤ 1 := List.count_le_length
  refine ⟨?_, ?_⟩
  · rw [slen, app_list, app_list, List.length_append, List.length_append, hu, hv, slen]
    show _ + 1 + _ ≤ _
    omega
  · rw [app_list, app_list, List.count_append, List.count_append, hu, hv]
    show _ + [c].count 40 + _ ≤ _
    omega
theorem cutH (t : Str) (n : Nat) : (cutS t none (DL.part (D.int (n : Int)))).cps.toList = t.cps.toList.take n := cut_hi t n
theorem cutL (t : Str) (n : Nat) : (cutS t (DL.part (D.int (n : Int))) none).cps.toList = t.cps.toList.drop n := cut_lo t n
theorem cutL1 (t : Str) (n : Nat) : (cutS t (DL.part (D.int ((n : Int) + 1))) none).cps.toList = t.cps.toList.drop (n + 1) := cut_lo t (n + 1)
theorem sp_rep (n : Nat) : (srep " " n).cps.toList.count 40 = 0 := by
  rw [List.count_eq_zero]
  intro hc
  simp only [DL.srep, List.mem_flatten, List.mem_replicate] at hc
  obtain ⟨l, ⟨_, rfl⟩, hc⟩ := hc
  exact absurd hc (by decide +kernel)
theorem changed_s {T : Str} {S : Sto} {k : Nat} {a b : Int} {Q : QE} {X : QX} (hT : T.length ≤ 50000) (hk : S[k]? = some (.lst [.int a, .int b])) (p : Pot a b) (h : ∀ (w : Str) a' b', w.length ≤ T.length + 9 → w.cps.toList.count 40 ≤ T.cps.toList.count 40 + 9 → Pot a' b' → Q (.str w) (S.set k (.lst [.int a', .int b']))) : OkE (callS m__law_changed [.str T, .obj k] S) Q X := by
  refine OkE_callL hk rfl rfl rfl ?_
  simp only [List.map_cons, List.map_nil, mapO, List.idxOf_cons_self]
  unfold m__law_changed
  refine k_fnD ?_
  unfold b__law_changed
  walk_at "T"
  with_reducible refine take_s ?_ p ?_ ?_ ?_
  · rfl
  · decide
  · decide
  intro d1 a1 b1 l1 u1 p1
  walk_at "T"
  refine OkS_for (fun i e S' => ∃ (t : Str) (a b : Int) (y2 y3 y4 y5 : Option D), e = [some (.str t), some (.obj 0), y2, y3, y4, y5] ∧ S' = [.lst [.int a, .int b]] ∧ Pot a b ∧ t.length ≤ T.length + 3 * i ∧ t.cps.toList.count 40 ≤ T.cps.toList.count 40 + 3 * i) (k := 0) ⟨T, a1, b1, _, _, _, _, rfl, rfl, p1, by omega, by omega⟩ ?_ ?_
  · rintro i d _ _ hd ⟨t, a, b, y2, y3, y4, y5, rfl, rfl, p, hl, hc⟩
    obtain ⟨hi, rfl⟩ := rng_at hd
    have u1 : d1 < 3 := u1
    have hi3 : i < 3 := by omega
    have done : ∀ {w : Str} {a b : Int} {y2 y3 y4 y5 : Option D}, Ch t w → Pot a b → ∃ (t : Str) (a' b' : Int) (y2' y3' y4' y5' : Option D), [some (D.str w), some (D.obj 0), y2, y3, y4, y5] = [some (D.str t), some (D.obj 0), y2', y3', y4', y5'] ∧ [Cell.lst [D.int a, D.int b]] = [Cell.lst [D.int a', D.int b']] ∧ Pot a' b' ∧ t.length ≤ T.length + 3 * (0 + i + 1) ∧ t.cps.toList.count 40 ≤ T.cps.toList.count 40 + 3 * (0 + i + 1) := fun {w a b y2 y3 y4 y5} c p => ⟨w, a, b, y2, y3, y4, y5, rfl, rfl, p, by have := c.l; omega, by have := c.c; omega⟩
    refine ⟨True.intro, _, rfl, ?_⟩
    walk_at "T"
    with_reducible refine take_s ?_ p ?_ ?_ ?_
    · rfl
    · omega
    · omega
    intro d2 a2 b2 l2 u2 p2
    obtain ⟨at_, rfl⟩ := Int.eq_ofNat_of_zero_le l2
    walk_at "T"
    with_reducible refine take_s ?_ p2 ?_ ?_ ?_
    · rfl
    · decide
    · decide
    intro w a3 b3 l3 u3 p3
    walk_at "T"
    have h6 : ("()\"\\ a" : Str).cps.toList.length = 6 := rfl
    with_reducible refine take_s ?_ p3 ?_ ?_ ?_
    · rfl
    · decide
    · decide
    intro d4 a4 b4 l4 u4 p4
    obtain ⟨j, hj, hjm⟩ := at_lt (xs := ("()\"\\ a" : Str).cps.toList) l4 (by rw [h6]; exact u4)
    refine k_ixS (by decide) hj ?_
    have q1 := cutH t at_
    have q2 := cutL t at_
    have q3 := cutL1 t at_
    have q4 := cutL t (at_ - 3)
    have n1 : (cutS t none (DL.part (D.int (at_ : Int)))).length ≤ t.length := by rw [slen, q1, List.length_take, slen]; omega
    have n2 : (cutS t (DL.part (D.int (at_ : Int))) none).length ≤ t.length := by rw [slen, q2, List.length_drop, slen]; omega
    have n3 : (cutS t (DL.part (D.int ((at_ : Int) + 1))) none).length ≤ t.length := by rw [slen, q3, List.length_drop, slen]; omega
    have n4 : (cutS t (DL.part (D.int ((at_ - 3 : Nat) : Int))) none).length ≤ t.length := by rw [slen, q4, List.length_drop, slen]; omega
    have n5 : (⟨#[j]⟩ : Str).length = 1 := rfl
    walk_at "T"
    refine k_dec (fun _ => ?_) fun _ => ?_
    · walk_at "T"
      refine k_slS (by omega) ?_
      walk_at "T"
      refine k_slS (by omega) ?_
      walk_at "T"
      exact done (ch_cut q1 q3 (by omega)) p4
    walk_at "T"
    refine k_dec (fun _ => ?_) fun _ => ?_
    · walk_at "T"
      refine k_slS (by omega) ?_
      walk_at "T"
      refine k_slS (by omega) ?_
      refine k_addS (by rw [app_len]; omega) ?_
      walk_at "T"
      exact done (ch_put q1 q2 (by omega)) p4
    walk_at "T"
    refine k_dec (fun _ => ?_) fun _ => ?_
    · walk_at "T"
      refine k_slS (by omega) ?_
      walk_at "T"
      refine k_slS (by omega) ?_
      refine k_addS (by rw [app_len]; omega) ?_
      walk_at "T"
      exact done (ch_put q1 q3 (by omega)) p4
    walk_at "T"
    refine k_dec (fun _ => ?_) fun _ => ?_
    · walk_at "T"
      refine k_slS (by omega) ?_
      walk_at "T"
      rw [show (if (at_ : Int) - 3 > 0 then (at_ : Int) - 3 else 0) = ((at_ - 3 : Nat) : Int) from by split <;> omega]
      refine k_slS (by omega) ?_
      walk_at "T"
      exact done (ch_cut q1 q4 (by omega)) p4
    walk_at "T"
    refine k_dec (fun _ => ?_) fun _ => ?_
    · walk_at "T"
      refine k_slS (by omega) ?_
      walk_at "T"
      have : Ch t (cutS t (DL.part (D.int (at_ : Int))) none) := ⟨by omega, by rw [q2]; exact Nat.le_trans ((List.drop_sublist _ _).count_le _) (by omega)⟩
      exact done this p4
    walk_at "T"
    have hs1 : (" " : Str).length = 1 := rfl
    have m0 := Int.emod_nonneg (at_ : Int) (show (2 : Int) ≠ 0 by decide)
    have m1 := Int.emod_lt_of_pos (at_ : Int) (show (0 : Int) < 2 by decide)
    generalize (at_ : Int) % 2 = e2 at m0 m1 ⊢
    refine k_opt (gMul_str ⟨by omega, by omega, by rw [hs1]; omega⟩) ?_
    have hz : (srep " " e2.toNat).length = e2.toNat := by rw [srep_length, hs1, Nat.mul_one]
    have hzc := sp_rep e2.toNat
    generalize srep " " e2.toNat = z at hz hzc ⊢
    walk_at "T"
    have : Ch t (t ++ z) := ⟨by rw [app_len]; omega, by rw [app_list, List.count_append]; omega⟩
    exact done this p4
  · rintro _ _ ⟨t, a, b, y2, y3, y4, y5, rfl, rfl, p, hl, hc⟩
    rw [rng_len] at hl hc
    have u1 : d1 < 3 := u1
    refine ⟨True.intro, ?_⟩
    walk_at "T"
    exact ⟨⟨rfl, rfl⟩, _, rfl, rfl, rfl, h t a b (by omega) (by omega) p⟩
end Law

namespace Law
open PySem PySem.Spec PyProof.Rows L2 DL
local macro_rules | `(tactic| walk_at "T") => `(tactic| (repeat (first | ((with_reducible refine (show OkE (opt _ _) _ _ from ?_)); (first | (with_reducible refine k_addI ?_) | (with_reducible refine k_subI ?_) | (with_reducible refine k_eqI ?_) | (with_reducible refine k_neI ?_) | (with_reducible refine k_ltI ?_) | (with_reducible refine k_leI ?_) | (with_reducible refine k_gtI ?_) | (with_reducible refine k_geI ?_) | (with_reducible refine k_eqS ?_) | (with_reducible refine k_neS ?_) | (with_reducible refine k_lenT ?_) | (with_reducible refine k_lenL ?_) | (with_reducible refine k_lenC ?_) | (with_reducible refine k_tupT ?_) | (with_reducible refine k_tupL ?_) | (with_reducible refine k_lstL ?_) | (with_reducible refine k_lstC ?_) | (with_reducible refine k_lstT ?_) | (with_reducible refine k_ltS ?_) | (with_reducible refine k_min2 ?_) | (with_reducible refine k_eqB ?_) | (with_reducible refine k_neB ?_) | (with_reducible refine k_slT ?_) | (with_reducible refine k_slL' ?_) | (with_reducible refine k_slC ?_) | (with_reducible refine k_strS ?_) | (with_reducible refine k_intI ?_) | (with_reducible refine k_intB ?_) | (with_reducible refine k_max2 ?_) | (with_reducible refine k_isxN ?_) | (with_reducible refine kp_kin ?_) | (with_reducible refine k_inT2 ?_) | (with_reducible refine k_inT3 ?_) | (with_reducible refine k_inT4 ?_) | (with_reducible refine k_inL2 ?_) | (with_reducible refine k_inL3 ?_) | (with_reducible refine k_inL4 ?_) | (with_reducible refine k_neg ?_) | ((with_reducible refine k_lenO (ds := ?_) ?_ ?_); rotate_left 1; rfl) | ((with_reducible refine k_tupO (ds := ?_) ?_ ?_); rotate_left 1; rfl) | ((with_reducible refine k_isi (t := ?_) ?_ ?_); rotate_left 1; rfl) | ((with_reducible refine k_is (z := ?_) ?_ ?_); rotate_left 1; rfl) | ((with_reducible refine k_isn (z := ?_) ?_ ?_); rotate_left 1; rfl) | ((with_reducible refine k_ixT (d := ?_) ?_ ?_); rotate_left 1; rfl) | ((with_reducible refine k_ixL (d := ?_) ?_ ?_); rotate_left 1; rfl) | ((with_reducible refine k_isx (z := ?_) ?_ ?_); rotate_left 1; rfl) | ((with_reducible refine k_fldG (fs := ?_) (d := ?_) ?_ ?_ ?_); rotate_left 2; rfl; rfl) | ((with_reducible refine kp_kix (y := ?_) ?_ ?_); rotate_left 1; rfl) | ((with_reducible refine k_ixO (ds := ?_) (d := ?_) ?_ ?_ ?_); rotate_left 2; rfl; rfl) | ((with_reducible refine k_lenS ?_ ?_); (first | omega | (simp; omega) | (with_reducible assumption) | decide)) | ((with_reducible refine k_mod ?_ ?_); (first | omega | (simp; omega) | (with_reducible assumption) | decide)) | ((with_reducible refine k_addS ?_ ?_); (first | omega | (simp; omega) | (with_reducible assumption) | decide)) | ((with_reducible refine k_mulI ?_ ?_); (first | omega | (simp; omega) | (with_reducible assumption) | decide)) | ((with_reducible refine k_addT ?_ ?_); (first | omega | (simp; omega) | (with_reducible assumption) | decide)) | ((with_reducible refine k_rep ?_ ?_); (first | omega | (simp; omega) | (with_reducible assumption) | decide)))) | ((with_reducible refine (show OkE _ _ _ from ?_)); (first | (with_reducible refine k_c ?_) | ((with_reducible refine k_v (d := ?_) ?_ ?_); rotate_left 1; rfl) | (with_reducible refine k_2 ?_) | (with_reducible refine k_1 ?_) | (with_reducible refine k_call ?_) | (with_reducible refine k_B ?_) | (with_reducible refine k_tup ?_) | (with_reducible refine k_lst ?_) | (with_reducible refine k_fld ?_) | (with_reducible refine k_new ?_) | (with_reducible refine k_sl2 ?_) | (with_reducible refine k_slL ?_) | (with_reducible refine k_slH ?_) | (with_reducible refine k_app ?_) | (with_reducible refine k_ext ?_) | (with_reducible refine k_bk ?_) | (with_reducible refine k_no ?_) | (with_reducible refine k_if ?_) | (with_reducible refine k_3B ?_) | (with_reducible refine k_m1 ?_) | (with_reducible refine k_m0 ?_) | (with_reducible refine k_cnt ?_) | (with_reducible refine k_meth ?_) | (with_reducible refine k_make ?_) | (with_reducible refine k_dget ?_) | (with_reducible refine k_dnew ?_) | (with_reducible refine k_dpop ?_) | (with_reducible refine k_an ?_))) | ((with_reducible refine (show OkS _ _ from ?_)); (first | (with_reducible refine k_seq ?_) | (with_reducible refine k_set ?_) | (with_reducible refine k_ret ?_) | (with_reducible refine k_sIf ?_) | (with_reducible refine k_for ?_) | (with_reducible refine k_forR ?_) | (with_reducible refine k_forG ?_) | (with_reducible refine k_pass ?_) | (with_reducible refine k_ex ?_) | (with_reducible refine k_retN ?_) | (with_reducible refine k_brk ?_) | (with_reducible refine k_cont ?_) | (with_reducible refine k_asg ?_) | (with_reducible refine k_setI ?_) | (with_reducible refine k_gc ?_) | (with_reducible refine k_forE ?_) | (with_reducible refine k_raise ?_) | (with_reducible refine k_tryAs ?_) | (with_reducible refine k_try ?_) | (with_reducible refine k_sFld ?_) | (with_reducible refine k_sSetD ?_) | (with_reducible refine k_sFldA ?_) | ((with_reducible refine k_aug (x := ?_) ?_ ?_); rotate_left 1; rfl) | ((with_reducible refine k_putI (ds := ?_) (k' := ?_) ?_ ?_ ?_); rotate_left 2; rfl; rfl))) | ((with_reducible refine (show OkB _ _ _ from ?_)); (first | (with_reducible refine k_tOf ?_) | (with_reducible refine k_tNo ?_) | (with_reducible refine k_tYs ?_) | (with_reducible refine k_tO ?_) | (with_reducible refine k_tAn ?_))) | ((with_reducible refine (show OkA _ _ _ from ?_)); (first | (with_reducible refine k_aC ?_) | (with_reducible refine k_aN ?_))) | ((with_reducible refine k_bnd ?_ ?_); (first | omega | (simp; omega) | skip)) | ((with_reducible refine k_condT ?_ ?_); rfl) | ((with_reducible refine k_condF ?_ ?_); rfl) | ((with_reducible refine And.intro ?_ ?_); (first | rfl | exact Nat.le_of_ble_eq_true rfl | omega | (simp; done))) | ((with_reducible refine k_exe (w := ?_) ?_ ?_); rotate_left 1; rfl))))
theorem pot_s {cell salt : Int} (h0 : 0 ≤ salt) (h1 : salt < 1000) {S : Sto} {Q : QE} {X : QX} (h : ∀ a b : Int, Pot a b → Q (.obj S.length) (S ++ [.lst [.int a, .int b]])) : OkE (callS m__law_pot [.int cell, .int salt] S) Q X := by
  have hp : (10 : Int) ^ (18 : Int).toNat = 1000000000000000000 := by decide
  refine OkE_call0K rfl ?_
  have back1 : ∀ c : List D, cls c = true → back [] S [.lst c] = S ++ [.lst c] := fun c hc => by
    unfold back
    simp [clC_mapC (c := .lst c) hc]
    exact List.ext_getElem? fun i => by simp
  by_cases hc : 1000000000000000000 ≤ (if cell < 0 then -cell else cell)
  · have e : m__law_pot [.int cell, .int salt] [] = .ok (.obj 0) [.lst [.int (if cell < 0 then -cell else cell), .int salt]] := by
      simp [m__law_pot, b__law_pot, gAbs, gPow, hp, hc]
    rw [e]
    refine ⟨rfl, rfl, ?_⟩
    rw [back1 _ rfl]
    exact h _ _ ⟨by split <;> omega, h0, by omega⟩
  · have h2 := Int.emod_nonneg ((cell % 2147483647 + 7919 * salt + 11) * 48271) (show (2147483647 : Int) ≠ 0 by decide)
    have h3 := Int.emod_lt_of_pos ((cell % 2147483647 + 7919 * salt + 11) * 48271) (show (0 : Int) < 2147483647 by decide)
    have e : m__law_pot [.int cell, .int salt] [] = .ok (.obj 0) [.lst [.int 0, .int ((cell % 2147483647 + 7919 * salt + 11) * 48271 % 2147483647)]] := by
      simp [m__law_pot, b__law_pot, gAbs, gPow, hp, hc, gMod_int, gMul_int]
    rw [e]
    refine ⟨rfl, rfl, ?_⟩
    rw [back1 _ rfl]
    exact h _ _ ⟨by decide, h2, by omega⟩
theorem cls_ints (ns : List Int) : cls (ns.map D.int) = true := cls_of fun d hd => by
  obtain ⟨z, _, rfl⟩ := List.mem_map.mp hd
  rfl
theorem ints_intL (ns : List Int) : intL (ns.map D.int) = some ns := by
  have := intL_map (f := fun z : Int => z) ns
  simpa using this
theorem k_mulS' {S : Sto} {Q : QE} {X : QX} {z : Str} {k : Int} (h : k < 2147483648 ∧ -2147483648 < k ∧ k.toNat * z.length ≤ 16777216) (q : Q (.str (srep z k.toNat)) S) : OkE (opt (gMul S (.str z) (.int k)) S) Q X := by
  rw [gMul_str h]; exact q
/-! ### how many brackets a text has -/
theorem count_esc : ∀ x : List Nat, (esc x).count 40 = x.count 40
  | [] => rfl
  | c :: x => by
    rw [esc_cons, List.count_append, count_esc x]
    have : (esc1 c).count 40 = [c].count 40 := by
      unfold esc1
      by_cases h9 : c = 92
      · subst h9; rfl
      · rw [if_neg h9]
        by_cases h3 : c = 34
        · subst h3; rfl
        · rw [if_neg h3]
    rw [this, ← List.count_append]
    rfl
mutual
theorem count_tt : ∀ d : D, (tt d).count 40 = pc d
  | .str x => by
    show (34 :: (esc x.cps.toList ++ [34])).count 40 = x.cps.toList.count 40
    rw [List.count_cons_of_ne (by decide), List.count_append, count_esc]
    rfl
  | .tup ds => by
    show (40 :: (tts ds ++ [41])).count 40 = 1 + pcs ds
    rw [List.count_cons_self, List.count_append, count_tts ds]
    show pcs ds + 0 + 1 = _
    omega
  | .non => rfl
  | .bl _ => rfl
  | .int _ => rfl
  | .lst _ => rfl
  | .dct _ _ => rfl
  | .obj _ => rfl
  | .scr _ => rfl
  | .exn _ => rfl
theorem count_tts : ∀ ds : List D, (tts ds).count 40 = pcs ds
  | [] => rfl
  | d :: ds => by
    show (tt d ++ ttr ds).count 40 = pc d + pcs ds
    rw [List.count_append, count_tt d, count_ttr ds]
theorem count_ttr : ∀ ds : List D, (ttr ds).count 40 = pcs ds
  | [] => rfl
  | d :: ds => by
    show (32 :: (tt d ++ ttr ds)).count 40 = pc d + pcs ds
    rw [List.count_cons_of_ne (by decide), List.count_append, count_tt d, count_ttr ds]
end
/-! ### too many brackets -/
theorem pT_deep : ∀ (n : Nat) (r : List Nat), pT n (List.replicate (n + 1) 40 ++ r) = none
  | 0, r => rfl
  | n + 1, r => by
    have ih := pT_deep n r
    have e : List.replicate (n + 1 + 1) 40 ++ r = 40 :: (List.replicate (n + 1) 40 ++ r) := rfl
    have hh : ¬ (List.replicate (n + 1) 40 ++ r).head? = some 41 := by
      show ¬ (40 :: (List.replicate n 40 ++ r)).head? = some 41
      intro z; cases z
    rw [e, pT, if_neg (by intro z; cases z), if_pos (by rfl), List.tail_cons, pR, if_neg hh, ih]
    rfl
theorem rdO_deep {s r : List Nat} {m : Nat} (hm : 13 ≤ m) (h : s = List.replicate m 40 ++ r) : rdO s = none := by
  have e : s = List.replicate 13 40 ++ (List.replicate (m - 13) 40 ++ r) := by
    rw [h, ← List.append_assoc, List.replicate_append_replicate, show 13 + (m - 13) = m by omega]
  unfold rdO
  rw [e, pT_deep 12]
theorem rep1 {α : Type} (n : Nat) (x : α) : (List.replicate n [x]).flatten = List.replicate n x := by
  induction n with
  | zero => rfl
  | succ n ih => rw [List.replicate_succ, List.replicate_succ, List.flatten_cons, ih]; rfl
theorem op_rep (n : Nat) : (srep "(" n).cps.toList = List.replicate n 40 := by
  show ((List.replicate n [40]).flatten.toArray).toList = _
  rw [rep1]
def nestD : Nat → D
  | 0 => .tup []
  | n + 1 => .tup [nestD n]
theorem nest_tree : treeB (nestD 11) = true := by decide +kernel
theorem nest_text : (srep "(" 12 ++ srep ")" 12).cps.toList = tt (nestD 11) := by decide +kernel
theorem nil_tree : treeB (.tup []) = true := by decide +kernel
theorem nil_text : ("()" : Str).cps.toList = tt (.tup []) := by decide +kernel
theorem tr_nil : tr 12 (.tup []) := ⟨by simp, fun d hd => by cases hd⟩
theorem isi_list {n : Nat} {d : D} (h : tr n d) {S : Sto} : gIsi "list" S d = some (.bl false) := by
  cases n <;> cases d <;> first | exact h.elim | rfl
theorem law_true (ns : List Int) (hns : ns.length ≤ 63) : ∃ S, m_law [.scr (ns.map D.int)] [] = .ok (.bl true) S := by
  suffices H : OkE (m_law [.scr (ns.map D.int)] []) (fun d S => d = .bl true) noX by
    obtain ⟨d, S, h1, rfl⟩ := H.eq
    exact ⟨S, h1⟩
  unfold m_law b_law
  refine k_fnK ?_
  walk_at "T"
  rw [List.length_map]
  walk_at "T"
  refine k_cellsN (m := 30) (by omega) (hi_le _ 30) fun cs hpos hcl => ?_
  walk_at "T"
  refine OkS_for (fun i e S => ∃ y1 y2 y3 y4 y5 y6 y7 y8 : Option D, e = [some (.scr (ns.map D.int)), y1, y2, y3, y4, y5, y6, y7, y8, none]) (k := 0) ⟨_, _, _, _, _, _, _, _, rfl⟩ ?_ ?_
  · rintro i d _ S hdi ⟨y1, y2, y3, y4, y5, y6, y7, y8, rfl⟩
    obtain ⟨cell, _, rfl⟩ := List.mem_map.mp (List.mem_of_getElem? hdi)
    refine ⟨rfl, _, rfl, ?_⟩
    walk_at "T"
    refine pot_s (by decide) (by decide) fun a b p => ?_
    have h0 : (S ++ [Cell.lst [.int a, .int b]])[S.length]? = some (.lst [.int a, .int b]) := by simp
    generalize S ++ [Cell.lst [.int a, .int b]] = S1 at h0 ⊢
    generalize S.length = k at h0 ⊢
    walk_at "T"
    refine good_tree_s h0 p fun d a1 b1 hg ht hpc p1 => ?_
    have hk := (List.getElem?_eq_some_iff.mp h0).1
    replace h0 : (S1.set k (.lst [.int a1, .int b1]))[k]? = some (.lst [.int a1, .int b1]) := List.getElem?_set_self hk
    generalize S1.set k (.lst [.int a1, .int b1]) = S2 at h0 ⊢
    have htr := hg.tr
    have htl := hg.t
    have hdc := tr_cl htr
    walk_at "T"
    refine text_tree_s 169 d (tr_mono htr (by decide)) (by omega) ?_
    walk_at "T"
    refine written_s 169 d (tr_mono htr (by decide)) (by omega) ?_
    have hTl : (⟨(tt d).toArray⟩ : Str).cps.toList = tt d := rfl
    generalize (⟨(tt d).toArray⟩ : Str) = T at hTl ⊢
    have hT : T.length ≤ 2400 := by rw [slen, hTl]; exact htl
    have hrd : rdD (rdO T.cps.toList) = d := by rw [hTl, rdO_tt ht]; rfl
    have hcT : T.cps.toList.count 40 ≤ 148 := by rw [hTl, count_tt]; exact hpc
    walk_at "T"
    rw [show (!decide (T = T)) = false by simp]
    walk_at "T"
    refine law_read_s (by omega) ?_
    rw [hrd]
    walk_at "T"
    refine k_neT (n := 12) (.inr htr) (.inr htr) (by decide) ?_
    rw [sameD_refl]
    walk_at "T"
    refine law_read_s (by omega) ?_
    rw [hrd]
    walk_at "T"
    refine k_opt (isi_list htr) ?_
    walk_at "T"
    refine OkS_for (fun j e S' => ∃ (a b : Int) (y5 y6 y7 y8 : Option D), e = [some (.scr (ns.map D.int)), some (.int cell), some (.obj k), some d, some (.str T), y5, y6, y7, y8, none] ∧ S'[k]? = some (.lst [.int a, .int b]) ∧ Pot a b) (k := 0) ⟨a1, b1, _, _, _, _, rfl, h0, p1⟩ ?_ ?_
    · rintro j z _ S3 hz ⟨a, b, y5, y6, y7, y8, rfl, h0, p⟩
      refine ⟨True.intro, _, rfl, ?_⟩
      walk_at "T"
      refine changed_s (by omega) h0 p fun w a2 b2 hwl hwc p2 => ?_
      have hk := (List.getElem?_eq_some_iff.mp h0).1
      replace h0 : (S3.set k (.lst [.int a2, .int b2]))[k]? = some (.lst [.int a2, .int b2]) := List.getElem?_set_self hk
      generalize S3.set k (.lst [.int a2, .int b2]) = S4 at h0 ⊢
      walk_at "T"
      refine law_due_s (by omega) (by omega) ?_
      rw [du_rd]
      cases hw : rdO w.cps.toList with
      | none =>
        walk_at "T"
        refine law_read_s (by omega) ?_
        rw [hw]
        walk_at "T"
        refine k_opt (d := .bl false) rfl ?_
        walk_at "T"
        exact ⟨a2, b2, _, _, _, _, rfl, h0, p2⟩
      | some d2 =>
        obtain ⟨t2, _⟩ := rdO_some hw
        have htr2 := (tree_gt t2).tr
        walk_at "T"
        refine law_read_s (by omega) ?_
        rw [hw]
        dsimp only [rdD, Option.getD]
        walk_at "T"
        refine k_condF (by rcases tr_vk htr2 with ⟨x, rfl, _⟩ | ⟨ds, rfl⟩ <;> rfl) ?_
        walk_at "T"
        refine k_condT (by rcases tr_vk htr2 with ⟨x, rfl, _⟩ | ⟨ds, rfl⟩ <;> rfl) ?_
        walk_at "T"
        refine k_neT (n := 12) (.inr htr2) (.inr htr2) (by decide) ?_
        rw [sameD_refl]
        walk_at "T"
        exact ⟨a2, b2, _, _, _, _, rfl, h0, p2⟩
    · rintro _ S3 ⟨a, b, y5, y6, y7, y8, rfl, h0, p⟩
      refine ⟨True.intro, ?_⟩
      exact ⟨_, _, _, _, _, _, _, _, rfl⟩
  · rintro _ S ⟨y1, y2, y3, y4, y5, y6, y7, y8, rfl⟩
    refine ⟨rfl, ?_⟩
    walk_at "T"
    refine k_opt (d := .int ns.sum) (by simp [gSum, view, ints_intL]) ?_
    walk_at "T"
    have m0 := Int.emod_nonneg ns.sum (show (3000 : Int) ≠ 0 by decide)
    have m1 := Int.emod_lt_of_pos ns.sum (show (0 : Int) < 3000 by decide)
    generalize ns.sum % 3000 = e at m0 m1 ⊢
    obtain ⟨n, rfl⟩ := Int.eq_ofNat_of_zero_le m0
    have hd : (13 + (n : Int)) = ((13 + n : Nat) : Int) := rfl
    rw [hd]
    have l1 : ("(" : Str).length = 1 := rfl
    have l2 : (")" : Str).length = 1 := rfl
    have l3 : ("\"a\"" : Str).length = 3 := rfl
    have s1 : (srep "(" 13).length = 13 := by rw [srep_length]; rfl
    have s2 : (srep ")" 13).length = 13 := by rw [srep_length]; rfl
    have s3 : (srep "(" (13 + n)).length = 13 + n := by rw [srep_length, l1, Nat.mul_one]
    have s4 : (srep ")" (13 + n)).length = 13 + n := by rw [srep_length, l2, Nat.mul_one]
    have t13 : (13 : Int).toNat = 13 := rfl
    have tn : (((13 + n : Nat) : Int)).toNat = 13 + n := rfl
    walk_at "T"
    with_reducible refine k_mulS' ?_ ?_
    · exact ⟨by decide, by decide, by decide⟩
    rw [t13]
    walk_at "T"
    with_reducible refine k_mulS' ?_ ?_
    · exact ⟨by decide, by decide, by decide⟩
    rw [t13]
    walk_at "T"
    with_reducible refine k_mulS' ?_ ?_
    · exact ⟨by omega, by omega, by rw [tn, l1]; omega⟩
    rw [tn]
    walk_at "T"
    with_reducible refine k_mulS' ?_ ?_
    · exact ⟨by omega, by omega, by rw [tn, l1]; omega⟩
    rw [tn]
    walk_at "T"
    with_reducible refine k_mulS' ?_ ?_
    · exact ⟨by omega, by omega, by rw [tn, l2]; omega⟩
    rw [tn]
    walk_at "T"
    with_reducible refine k_mulS' ?_ ?_
    · exact ⟨by omega, by omega, by rw [tn, l1]; omega⟩
    rw [tn]
    walk_at "T"
    with_reducible refine k_mulS' ?_ ?_
    · exact ⟨by omega, by omega, by rw [tn, l2]; omega⟩
    rw [tn]
    walk_at "T"
    have hbad : ∀ d ∈ ([.str "", .str (srep "(" 13 ++ srep ")" 13), .str (srep "(" (13 + n)), .str (srep "(" (13 + n) ++ srep ")" (13 + n)), .str (srep "(" (13 + n) ++ "\"a\"" ++ srep ")" (13 + n))] : List D), ∃ x, d = .str x ∧ x.length ≤ 60000 ∧ rdO x.cps.toList = none := by
      intro d hd
      simp only [List.mem_cons, List.not_mem_nil, or_false] at hd
      rcases hd with rfl | rfl | rfl | rfl | rfl
      · exact ⟨_, rfl, Nat.zero_le _, rfl⟩
      · exact ⟨_, rfl, by rw [app_len]; omega, rdO_deep (m := 13) (Nat.le_refl _) (by rw [app_list, op_rep])⟩
      · exact ⟨_, rfl, by omega, rdO_deep (m := 13 + n) (r := []) (by omega) (by rw [op_rep, List.append_nil])⟩
      · exact ⟨_, rfl, by rw [app_len]; omega, rdO_deep (m := 13 + n) (by omega) (by rw [app_list, op_rep])⟩
      · exact ⟨_, rfl, by rw [app_len, app_len]; omega, rdO_deep (m := 13 + n) (by omega) (by rw [app_list, app_list, op_rep, List.append_assoc])⟩
    generalize ([.str "", .str (srep "(" 13 ++ srep ")" 13), .str (srep "(" (13 + n)), .str (srep "(" (13 + n) ++ srep ")" (13 + n)), .str (srep "(" (13 + n) ++ "\"a\"" ++ srep ")" (13 + n))] : List D) = tx at hbad ⊢
    refine OkS_for (fun i e S => ∃ y1 y2 y3 y4 y5 y6 y7 y8 : Option D, e = [some (.scr (ns.map D.int)), y1, y2, y3, y4, y5, y6, y7, y8, some (.int ((13 + n : Nat) : Int))]) (k := 0) ⟨_, _, _, _, _, _, _, _, rfl⟩ ?_ ?_
    · rintro i d _ S hdi ⟨y1, y2, y3, y4, y5, y6, y7, y8, rfl⟩
      obtain ⟨x, rfl, hx, hr⟩ := hbad d (List.mem_of_getElem? hdi)
      refine ⟨rfl, _, rfl, ?_⟩
      walk_at "T"
      refine law_read_s hx ?_
      rw [hr]
      walk_at "T"
      refine k_opt (d := .bl false) rfl ?_
      walk_at "T"
      exact ⟨_, _, _, _, _, _, _, _, rfl⟩
    · rintro _ S ⟨y1, y2, y3, y4, y5, y6, y7, y8, rfl⟩
      have t12 : (12 : Int).toNat = 12 := rfl
      have s5 : (srep "(" 12).length = 12 := by rw [srep_length]; rfl
      have s6 : (srep ")" 12).length = 12 := by rw [srep_length]; rfl
      refine ⟨rfl, ?_⟩
      walk_at "T"
      with_reducible refine k_mulS' ?_ ?_
      · exact ⟨by decide, by decide, by decide⟩
      rw [t12]
      walk_at "T"
      with_reducible refine k_mulS' ?_ ?_
      · exact ⟨by decide, by decide, by decide⟩
      rw [t12]
      walk_at "T"
      have r1 : rdO (srep "(" 12 ++ srep ")" 12).cps.toList = some (nestD 11) := by rw [nest_text]; exact rdO_tt nest_tree
      have r2 : rdO ("()" : Str).cps.toList = some (.tup []) := by rw [nil_text]; exact rdO_tt nil_tree
      refine read_tree_s (by rw [app_len]; omega) (fun d hd => ?_) fun hd => by rw [r1] at hd; cases hd
      rw [r1] at hd
      cases hd
      walk_at "T"
      refine k_neT (n := 12) (.inr (tree_gt nest_tree).tr) (.inr tr_nil) (by decide) ?_
      rw [sameD_no (fun h => by cases h)]
      walk_at "T"
      refine read_tree_s (by decide) (fun d hd => ?_) fun hd => by rw [r2] at hd; cases hd
      rw [r2] at hd
      cases hd
      walk_at "T"
      refine k_eqT (n := 12) (.inr tr_nil) (.inr tr_nil) (by decide) ?_
      rw [sameD_refl]
      walk_at "T"
      all_goals first | rfl | exact ⟨rfl, rfl⟩
end Law

namespace Law
open PySem PySem.Spec PyProof.Rows L2 DL
theorem all_mk {w : World} {K : PySem.W.Frag} {h : Heap} {mg : Str → Option Value} {fa f__law_pot f__law_take f__law_signs f__law_text f__law_tree f__law_measure f__law_is_tree f__law_good_tree f_tree_text f__law_changed f__law_text_in f__law_tree_in f__law_due f_text_from f_row_from f_tree_from f_is_plain f_room_left f_is_tree f_read_tree f__law_read f__law_written f_law : Addr} (X : K.In h) (G : h.Ns mainGlobals mg) (hfa : mg "law" = some (.ref fa))
    {od__law_pot an__law_pot : Option Addr} {sl__law_pot : Array (Option Value)} {oc__law_pot kV__law_pot dc__law_pot pm__law_pot cd__law_pot ct__law_pot : Value} {od__law_take an__law_take : Option Addr} {sl__law_take : Array (Option Value)} {oc__law_take kV__law_take dc__law_take pm__law_take cd__law_take ct__law_take : Value} {od__law_signs an__law_signs : Option Addr} {sl__law_signs : Array (Option Value)} {oc__law_signs kV__law_signs dc__law_signs pm__law_signs cd__law_signs ct__law_signs : Value} {od__law_text an__law_text : Option Addr} {sl__law_text : Array (Option Value)} {oc__law_text kV__law_text dc__law_text pm__law_text cd__law_text ct__law_text : Value} {od__law_tree an__law_tree : Option Addr} {sl__law_tree : Array (Option Value)} {oc__law_tree kV__law_tree dc__law_tree pm__law_tree cd__law_tree ct__law_tree : Value} {od__law_measure an__law_measure : Option Addr} {sl__law_measure : Array (Option Value)} {oc__law_measure kV__law_measure dc__law_measure pm__law_measure cd__law_measure ct__law_measure : Value} {od__law_is_tree an__law_is_tree : Option Addr} {sl__law_is_tree : Array (Option Value)} {oc__law_is_tree kV__law_is_tree dc__law_is_tree pm__law_is_tree cd__law_is_tree ct__law_is_tree : Value} {od__law_good_tree an__law_good_tree : Option Addr} {sl__law_good_tree : Array (Option Value)} {oc__law_good_tree kV__law_good_tree dc__law_good_tree pm__law_good_tree cd__law_good_tree ct__law_good_tree : Value} {od_tree_text an_tree_text : Option Addr} {sl_tree_text : Array (Option Value)} {oc_tree_text kV_tree_text dc_tree_text pm_tree_text cd_tree_text ct_tree_text : Value} {od__law_changed an__law_changed : Option Addr} {sl__law_changed : Array (Option Value)} {oc__law_changed kV__law_changed dc__law_changed pm__law_changed cd__law_changed ct__law_changed : Value} {od__law_text_in an__law_text_in : Option Addr} {sl__law_text_in : Array (Option Value)} {oc__law_text_in kV__law_text_in dc__law_text_in pm__law_text_in cd__law_text_in ct__law_text_in : Value} {od__law_tree_in an__law_tree_in : Option Addr} {sl__law_tree_in : Array (Option Value)} {oc__law_tree_in kV__law_tree_in dc__law_tree_in pm__law_tree_in cd__law_tree_in ct__law_tree_in : Value} {od__law_due an__law_due : Option Addr} {sl__law_due : Array (Option Value)} {oc__law_due kV__law_due dc__law_due pm__law_due cd__law_due ct__law_due : Value} {od_text_from an_text_from : Option Addr} {sl_text_from : Array (Option Value)} {oc_text_from kV_text_from dc_text_from pm_text_from cd_text_from ct_text_from : Value} {od_row_from an_row_from : Option Addr} {sl_row_from : Array (Option Value)} {oc_row_from kV_row_from dc_row_from pm_row_from cd_row_from ct_row_from : Value} {od_tree_from an_tree_from : Option Addr} {sl_tree_from : Array (Option Value)} {oc_tree_from kV_tree_from dc_tree_from pm_tree_from cd_tree_from ct_tree_from : Value} {od_is_plain an_is_plain : Option Addr} {sl_is_plain : Array (Option Value)} {oc_is_plain kV_is_plain dc_is_plain pm_is_plain cd_is_plain ct_is_plain : Value} {od_room_left an_room_left : Option Addr} {sl_room_left : Array (Option Value)} {oc_room_left kV_room_left dc_room_left pm_room_left cd_room_left ct_room_left : Value} {od_is_tree an_is_tree : Option Addr} {sl_is_tree : Array (Option Value)} {oc_is_tree kV_is_tree dc_is_tree pm_is_tree cd_is_tree ct_is_tree : Value} {od_read_tree an_read_tree : Option Addr} {sl_read_tree : Array (Option Value)} {oc_read_tree kV_read_tree dc_read_tree pm_read_tree cd_read_tree ct_read_tree : Value} {od__law_read an__law_read : Option Addr} {sl__law_read : Array (Option Value)} {oc__law_read kV__law_read dc__law_read pm__law_read cd__law_read ct__law_read : Value} {od__law_written an__law_written : Option Addr} {sl__law_written : Array (Option Value)} {oc__law_written kV__law_written dc__law_written pm__law_written cd__law_written ct__law_written : Value} {od_law an_law : Option Addr} {sl_law : Array (Option Value)} {oc_law kV_law dc_law pm_law cd_law ct_law : Value}
    (a__law_pot : PySem.W.nsIn K mainGlobals "_law_pot" = some (some (.ref f__law_pot))) (l__law_pot : K.lookup f__law_pot = some ⟨oc__law_pot, od__law_pot, .func (PySem.W.fnOf "_law_pot" "_law_pot" (defArgs s__law_pot) (defBody s__law_pot) (defScope s__law_pot) .none kV__law_pot dc__law_pot pm__law_pot an__law_pot cd__law_pot ct__law_pot), sl__law_pot⟩) (c__law_pot : PySem.W.codeIn K cd__law_pot "_law_pot" = true) (k__law_pot : PySem.W.keepIn K (.ref f__law_pot) = true)
    (a__law_take : PySem.W.nsIn K mainGlobals "_law_take" = some (some (.ref f__law_take))) (l__law_take : K.lookup f__law_take = some ⟨oc__law_take, od__law_take, .func (PySem.W.fnOf "_law_take" "_law_take" (defArgs s__law_take) (defBody s__law_take) (defScope s__law_take) .none kV__law_take dc__law_take pm__law_take an__law_take cd__law_take ct__law_take), sl__law_take⟩) (c__law_take : PySem.W.codeIn K cd__law_take "_law_take" = true) (k__law_take : PySem.W.keepIn K (.ref f__law_take) = true)
    (a__law_signs : PySem.W.nsIn K mainGlobals "_law_signs" = some (some (.ref f__law_signs))) (l__law_signs : K.lookup f__law_signs = some ⟨oc__law_signs, od__law_signs, .func (PySem.W.fnOf "_law_signs" "_law_signs" (defArgs s__law_signs) (defBody s__law_signs) (defScope s__law_signs) .none kV__law_signs dc__law_signs pm__law_signs an__law_signs cd__law_signs ct__law_signs), sl__law_signs⟩) (c__law_signs : PySem.W.codeIn K cd__law_signs "_law_signs" = true) (k__law_signs : PySem.W.keepIn K (.ref f__law_signs) = true)
    (a__law_text : PySem.W.nsIn K mainGlobals "_law_text" = some (some (.ref f__law_text))) (l__law_text : K.lookup f__law_text = some ⟨oc__law_text, od__law_text, .func (PySem.W.fnOf "_law_text" "_law_text" (defArgs s__law_text) (defBody s__law_text) (defScope s__law_text) .none kV__law_text dc__law_text pm__law_text an__law_text cd__law_text ct__law_text), sl__law_text⟩) (c__law_text : PySem.W.codeIn K cd__law_text "_law_text" = true) (k__law_text : PySem.W.keepIn K (.ref f__law_text) = true)
    (a__law_tree : PySem.W.nsIn K mainGlobals "_law_tree" = some (some (.ref f__law_tree))) (l__law_tree : K.lookup f__law_tree = some ⟨oc__law_tree, od__law_tree, .func (PySem.W.fnOf "_law_tree" "_law_tree" (defArgs s__law_tree) (defBody s__law_tree) (defScope s__law_tree) .none kV__law_tree dc__law_tree pm__law_tree an__law_tree cd__law_tree ct__law_tree), sl__law_tree⟩) (c__law_tree : PySem.W.codeIn K cd__law_tree "_law_tree" = true) (k__law_tree : PySem.W.keepIn K (.ref f__law_tree) = true)
    (a__law_measure : PySem.W.nsIn K mainGlobals "_law_measure" = some (some (.ref f__law_measure))) (l__law_measure : K.lookup f__law_measure = some ⟨oc__law_measure, od__law_measure, .func (PySem.W.fnOf "_law_measure" "_law_measure" (defArgs s__law_measure) (defBody s__law_measure) (defScope s__law_measure) .none kV__law_measure dc__law_measure pm__law_measure an__law_measure cd__law_measure ct__law_measure), sl__law_measure⟩) (c__law_measure : PySem.W.codeIn K cd__law_measure "_law_measure" = true) (k__law_measure : PySem.W.keepIn K (.ref f__law_measure) = true)
    (a__law_is_tree : PySem.W.nsIn K mainGlobals "_law_is_tree" = some (some (.ref f__law_is_tree))) (l__law_is_tree : K.lookup f__law_is_tree = some ⟨oc__law_is_tree, od__law_is_tree, .func (PySem.W.fnOf "_law_is_tree" "_law_is_tree" (defArgs s__law_is_tree) (defBody s__law_is_tree) (defScope s__law_is_tree) .none kV__law_is_tree dc__law_is_tree pm__law_is_tree an__law_is_tree cd__law_is_tree ct__law_is_tree), sl__law_is_tree⟩) (c__law_is_tree : PySem.W.codeIn K cd__law_is_tree "_law_is_tree" = true) (k__law_is_tree : PySem.W.keepIn K (.ref f__law_is_tree) = true)
    (a__law_good_tree : PySem.W.nsIn K mainGlobals "_law_good_tree" = some (some (.ref f__law_good_tree))) (l__law_good_tree : K.lookup f__law_good_tree = some ⟨oc__law_good_tree, od__law_good_tree, .func (PySem.W.fnOf "_law_good_tree" "_law_good_tree" (defArgs s__law_good_tree) (defBody s__law_good_tree) (defScope s__law_good_tree) .none kV__law_good_tree dc__law_good_tree pm__law_good_tree an__law_good_tree cd__law_good_tree ct__law_good_tree), sl__law_good_tree⟩) (c__law_good_tree : PySem.W.codeIn K cd__law_good_tree "_law_good_tree" = true) (k__law_good_tree : PySem.W.keepIn K (.ref f__law_good_tree) = true)
    (a_tree_text : PySem.W.nsIn K mainGlobals "tree_text" = some (some (.ref f_tree_text))) (l_tree_text : K.lookup f_tree_text = some ⟨oc_tree_text, od_tree_text, .func (PySem.W.fnOf "tree_text" "tree_text" (defArgs s_tree_text) (defBody s_tree_text) (defScope s_tree_text) .none kV_tree_text dc_tree_text pm_tree_text an_tree_text cd_tree_text ct_tree_text), sl_tree_text⟩) (c_tree_text : PySem.W.codeIn K cd_tree_text "tree_text" = true) (k_tree_text : PySem.W.keepIn K (.ref f_tree_text) = true)
    (a__law_changed : PySem.W.nsIn K mainGlobals "_law_changed" = some (some (.ref f__law_changed))) (l__law_changed : K.lookup f__law_changed = some ⟨oc__law_changed, od__law_changed, .func (PySem.W.fnOf "_law_changed" "_law_changed" (defArgs s__law_changed) (defBody s__law_changed) (defScope s__law_changed) .none kV__law_changed dc__law_changed pm__law_changed an__law_changed cd__law_changed ct__law_changed), sl__law_changed⟩) (c__law_changed : PySem.W.codeIn K cd__law_changed "_law_changed" = true) (k__law_changed : PySem.W.keepIn K (.ref f__law_changed) = true)
    (a__law_text_in : PySem.W.nsIn K mainGlobals "_law_text_in" = some (some (.ref f__law_text_in))) (l__law_text_in : K.lookup f__law_text_in = some ⟨oc__law_text_in, od__law_text_in, .func (PySem.W.fnOf "_law_text_in" "_law_text_in" (defArgs s__law_text_in) (defBody s__law_text_in) (defScope s__law_text_in) .none kV__law_text_in dc__law_text_in pm__law_text_in an__law_text_in cd__law_text_in ct__law_text_in), sl__law_text_in⟩) (c__law_text_in : PySem.W.codeIn K cd__law_text_in "_law_text_in" = true) (k__law_text_in : PySem.W.keepIn K (.ref f__law_text_in) = true)
    (a__law_tree_in : PySem.W.nsIn K mainGlobals "_law_tree_in" = some (some (.ref f__law_tree_in))) (l__law_tree_in : K.lookup f__law_tree_in = some ⟨oc__law_tree_in, od__law_tree_in, .func (PySem.W.fnOf "_law_tree_in" "_law_tree_in" (defArgs s__law_tree_in) (defBody s__law_tree_in) (defScope s__law_tree_in) .none kV__law_tree_in dc__law_tree_in pm__law_tree_in an__law_tree_in cd__law_tree_in ct__law_tree_in), sl__law_tree_in⟩) (c__law_tree_in : PySem.W.codeIn K cd__law_tree_in "_law_tree_in" = true) (k__law_tree_in : PySem.W.keepIn K (.ref f__law_tree_in) = true)
    (a__law_due : PySem.W.nsIn K mainGlobals "_law_due" = some (some (.ref f__law_due))) (l__law_due : K.lookup f__law_due = some ⟨oc__law_due, od__law_due, .func (PySem.W.fnOf "_law_due" "_law_due" (defArgs s__law_due) (defBody s__law_due) (defScope s__law_due) .none kV__law_due dc__law_due pm__law_due an__law_due cd__law_due ct__law_due), sl__law_due⟩) (c__law_due : PySem.W.codeIn K cd__law_due "_law_due" = true) (k__law_due : PySem.W.keepIn K (.ref f__law_due) = true)
    (a_text_from : PySem.W.nsIn K mainGlobals "text_from" = some (some (.ref f_text_from))) (l_text_from : K.lookup f_text_from = some ⟨oc_text_from, od_text_from, .func (PySem.W.fnOf "text_from" "text_from" (defArgs s_text_from) (defBody s_text_from) (defScope s_text_from) .none kV_text_from dc_text_from pm_text_from an_text_from cd_text_from ct_text_from), sl_text_from⟩) (c_text_from : PySem.W.codeIn K cd_text_from "text_from" = true) (k_text_from : PySem.W.keepIn K (.ref f_text_from) = true)
    (a_row_from : PySem.W.nsIn K mainGlobals "row_from" = some (some (.ref f_row_from))) (l_row_from : K.lookup f_row_from = some ⟨oc_row_from, od_row_from, .func (PySem.W.fnOf "row_from" "row_from" (defArgs s_row_from) (defBody s_row_from) (defScope s_row_from) .none kV_row_from dc_row_from pm_row_from an_row_from cd_row_from ct_row_from), sl_row_from⟩) (c_row_from : PySem.W.codeIn K cd_row_from "row_from" = true) (k_row_from : PySem.W.keepIn K (.ref f_row_from) = true)
    (a_tree_from : PySem.W.nsIn K mainGlobals "tree_from" = some (some (.ref f_tree_from))) (l_tree_from : K.lookup f_tree_from = some ⟨oc_tree_from, od_tree_from, .func (PySem.W.fnOf "tree_from" "tree_from" (defArgs s_tree_from) (defBody s_tree_from) (defScope s_tree_from) .none kV_tree_from dc_tree_from pm_tree_from an_tree_from cd_tree_from ct_tree_from), sl_tree_from⟩) (c_tree_from : PySem.W.codeIn K cd_tree_from "tree_from" = true) (k_tree_from : PySem.W.keepIn K (.ref f_tree_from) = true)
    (a_is_plain : PySem.W.nsIn K mainGlobals "is_plain" = some (some (.ref f_is_plain))) (l_is_plain : K.lookup f_is_plain = some ⟨oc_is_plain, od_is_plain, .func (PySem.W.fnOf "is_plain" "is_plain" (defArgs s_is_plain) (defBody s_is_plain) (defScope s_is_plain) .none kV_is_plain dc_is_plain pm_is_plain an_is_plain cd_is_plain ct_is_plain), sl_is_plain⟩) (c_is_plain : PySem.W.codeIn K cd_is_plain "is_plain" = true) (k_is_plain : PySem.W.keepIn K (.ref f_is_plain) = true)
    (a_room_left : PySem.W.nsIn K mainGlobals "room_left" = some (some (.ref f_room_left))) (l_room_left : K.lookup f_room_left = some ⟨oc_room_left, od_room_left, .func (PySem.W.fnOf "room_left" "room_left" (defArgs s_room_left) (defBody s_room_left) (defScope s_room_left) .none kV_room_left dc_room_left pm_room_left an_room_left cd_room_left ct_room_left), sl_room_left⟩) (c_room_left : PySem.W.codeIn K cd_room_left "room_left" = true) (k_room_left : PySem.W.keepIn K (.ref f_room_left) = true)
    (a_is_tree : PySem.W.nsIn K mainGlobals "is_tree" = some (some (.ref f_is_tree))) (l_is_tree : K.lookup f_is_tree = some ⟨oc_is_tree, od_is_tree, .func (PySem.W.fnOf "is_tree" "is_tree" (defArgs s_is_tree) (defBody s_is_tree) (defScope s_is_tree) .none kV_is_tree dc_is_tree pm_is_tree an_is_tree cd_is_tree ct_is_tree), sl_is_tree⟩) (c_is_tree : PySem.W.codeIn K cd_is_tree "is_tree" = true) (k_is_tree : PySem.W.keepIn K (.ref f_is_tree) = true)
    (a_read_tree : PySem.W.nsIn K mainGlobals "read_tree" = some (some (.ref f_read_tree))) (l_read_tree : K.lookup f_read_tree = some ⟨oc_read_tree, od_read_tree, .func (PySem.W.fnOf "read_tree" "read_tree" (defArgs s_read_tree) (defBody s_read_tree) (defScope s_read_tree) .none kV_read_tree dc_read_tree pm_read_tree an_read_tree cd_read_tree ct_read_tree), sl_read_tree⟩) (c_read_tree : PySem.W.codeIn K cd_read_tree "read_tree" = true) (k_read_tree : PySem.W.keepIn K (.ref f_read_tree) = true)
    (a__law_read : PySem.W.nsIn K mainGlobals "_law_read" = some (some (.ref f__law_read))) (l__law_read : K.lookup f__law_read = some ⟨oc__law_read, od__law_read, .func (PySem.W.fnOf "_law_read" "_law_read" (defArgs s__law_read) (defBody s__law_read) (defScope s__law_read) .none kV__law_read dc__law_read pm__law_read an__law_read cd__law_read ct__law_read), sl__law_read⟩) (c__law_read : PySem.W.codeIn K cd__law_read "_law_read" = true) (k__law_read : PySem.W.keepIn K (.ref f__law_read) = true)
    (a__law_written : PySem.W.nsIn K mainGlobals "_law_written" = some (some (.ref f__law_written))) (l__law_written : K.lookup f__law_written = some ⟨oc__law_written, od__law_written, .func (PySem.W.fnOf "_law_written" "_law_written" (defArgs s__law_written) (defBody s__law_written) (defScope s__law_written) .none kV__law_written dc__law_written pm__law_written an__law_written cd__law_written ct__law_written), sl__law_written⟩) (c__law_written : PySem.W.codeIn K cd__law_written "_law_written" = true) (k__law_written : PySem.W.keepIn K (.ref f__law_written) = true)
    (a_law : PySem.W.nsIn K mainGlobals "law" = some (some (.ref f_law))) (l_law : K.lookup f_law = some ⟨oc_law, od_law, .func (PySem.W.fnOf "law" "law" (defArgs s_law) (defBody s_law) (defScope s_law) .none kV_law dc_law pm_law an_law cd_law ct_law), sl_law⟩) (c_law : PySem.W.codeIn K cd_law "law" = true) (k_law : PySem.W.keepIn K (.ref f_law) = true)
    (z_ValueError : PySem.W.nsIn K mainGlobals "ValueError" = some none)
    (z_abs : PySem.W.nsIn K mainGlobals "abs" = some none)
    (z_all : PySem.W.nsIn K mainGlobals "all" = some none)
    (z_int : PySem.W.nsIn K mainGlobals "int" = some none)
    (z_isinstance : PySem.W.nsIn K mainGlobals "isinstance" = some none)
    (z_len : PySem.W.nsIn K mainGlobals "len" = some none)
    (z_list : PySem.W.nsIn K mainGlobals "list" = some none)
    (z_max : PySem.W.nsIn K mainGlobals "max" = some none)
    (z_range : PySem.W.nsIn K mainGlobals "range" = some none)
    (z_str : PySem.W.nsIn K mainGlobals "str" = some none)
    (z_sum : PySem.W.nsIn K mainGlobals "sum" = some none)
    (z_tuple : PySem.W.nsIn K mainGlobals "tuple" = some none)
    {t_MOST_DEEP : Tok} (y_MOST_DEEP : PySem.W.nsIn K mainGlobals "MOST_DEEP" = some (some (.int 12 t_MOST_DEEP)))
    {t_MOST_PARTS : Tok} (y_MOST_PARTS : PySem.W.nsIn K mainGlobals "MOST_PARTS" = some (some (.int 40 t_MOST_PARTS)))
    {t_MOST_SIGNS : Tok} (y_MOST_SIGNS : PySem.W.nsIn K mainGlobals "MOST_SIGNS" = some (some (.int 300 t_MOST_SIGNS)))
    {t_MOST_SIZE : Tok} (y_MOST_SIZE : PySem.W.nsIn K mainGlobals "MOST_SIZE" = some (some (.int 600 t_MOST_SIZE)))
    {C_BadKeep : Addr} (a_BadKeep : PySem.W.nsIn K mainGlobals "BadKeep" = some (some (.ref C_BadKeep)))
    {C_BadName : Addr} (a_BadName : PySem.W.nsIn K mainGlobals "BadName" = some (some (.ref C_BadName)))
    {C_BadRule : Addr} (a_BadRule : PySem.W.nsIn K mainGlobals "BadRule" = some (some (.ref C_BadRule)))
    {C_BadText : Addr} (a_BadText : PySem.W.nsIn K mainGlobals "BadText" = some (some (.ref C_BadText)))
    {C_BadThing : Addr} (a_BadThing : PySem.W.nsIn K mainGlobals "BadThing" = some (some (.ref C_BadThing)))
    {C_BadTree : Addr} (a_BadTree : PySem.W.nsIn K mainGlobals "BadTree" = some (some (.ref C_BadTree)))
    {C_WrightError : Addr} (a_WrightError : PySem.W.nsIn K mainGlobals "WrightError" = some (some (.ref C_WrightError)))
    (b_BadTree : PySem.W.subIn K (.ref (C_BadTree)) (.type "BaseException") = some true)
    (i_BadTree_hg : PySem.W.findIn K (.ref C_BadTree) "__getattribute__" = some (some (.builtin "BaseException.__getattribute__")))
    (i_BadTree_hk : PySem.W.findIn K (.ref C_BadTree) "__getattr__" = some none)
    (i_BadTree_hs : PySem.W.subIn K (.ref C_BadTree) (.type "BaseException") = some true)
    (i_BadTree_hd : PySem.W.hasDictIn K C_BadTree = true)
    (i_BadTree_ha : PySem.W.findIn K (.ref C_BadTree) "__class__" = some (some (.builtin "object.__class__")))
    (i_BadTree_hn : PySem.W.specialIn K (.builtin "object.__class__") "__get__" = some (some (.builtin "getset_descriptor.__get__")))
    (i_BadTree_ht : PySem.W.takesIn K (.builtin "object.__class__") = some true)
    (i_BadTree_hm : PySem.W.mroIn K C_BadTree (.type "object") = some true)
    (k_BadTree : PySem.W.keepIn K (.ref (C_BadTree)) = true)
    (m_BadTree_WrightError : PySem.W.exmOne K (.ref (C_BadTree)) (.ref (C_WrightError)) = some true)
    (n_BadKeep : PySem.W.kitOne K (.type "NoneType") (.ref (C_BadKeep)) = some false)
    (n_BadName : PySem.W.kitOne K (.type "NoneType") (.ref (C_BadName)) = some false)
    (n_BadRule : PySem.W.kitOne K (.type "NoneType") (.ref (C_BadRule)) = some false)
    (n_BadText : PySem.W.kitOne K (.type "NoneType") (.ref (C_BadText)) = some false)
    (n_BadThing : PySem.W.kitOne K (.type "NoneType") (.ref (C_BadThing)) = some false)
    (n_BadTree : PySem.W.kitOne K (.type "NoneType") (.ref (C_BadTree)) = some false)
    (n_ValueError : PySem.W.kitOne K (.type "NoneType") (.type "ValueError") = some false)
    (q_BadTree_BadKeep : PySem.W.kitOne K (.ref (C_BadTree)) (.ref (C_BadKeep)) = some false)
    (q_BadTree_BadName : PySem.W.kitOne K (.ref (C_BadTree)) (.ref (C_BadName)) = some false)
    (q_BadTree_BadRule : PySem.W.kitOne K (.ref (C_BadTree)) (.ref (C_BadRule)) = some false)
    (q_BadTree_BadText : PySem.W.kitOne K (.ref (C_BadTree)) (.ref (C_BadText)) = some false)
    (q_BadTree_BadThing : PySem.W.kitOne K (.ref (C_BadTree)) (.ref (C_BadThing)) = some false)
    (q_BadTree_BadTree : PySem.W.kitOne K (.ref (C_BadTree)) (.ref (C_BadTree)) = some true)
    (q_BadTree_ValueError : PySem.W.kitOne K (.ref (C_BadTree)) (.type "ValueError") = some true)
    (t_BadTree : PySem.W.typeIn K (.ref (C_BadTree)) = some (.type "type"))
    (x_BadTree : PySem.W.excIn K (C_BadTree) [.type "ValueError", .type "Exception", .type "BaseException", .type "object"] "ValueError.__new__" = true)
    (hm : ∀ ns : List Int, ns.length ≤ 63 → ∃ S, m_law [.scr (ns.map D.int)] [] = .ok (.bl true) S) :
    ∃ fd : FuncData, (∀ (s : Shared) (v : Value), BindsTo s fd ⟨[v], []⟩ [("script", v)]) ∧ ∀ base : Heap, K.In base → base.Ns mainGlobals mg → FnOk PySem.Challenge.pw_askwright_k03_trees_written_and_read w K mg base CX0 176 fa fd ["script"] (spLaw K 63) := by
  have e := hfa.symm.trans (PySem.W.mg_of X G a_law)
  cases e
  have T : Txt w K mg := { n_ValueError := PySem.W.mg_none_of X G z_ValueError, n_abs := PySem.W.mg_none_of X G z_abs, n_all := PySem.W.mg_none_of X G z_all, n_int := PySem.W.mg_none_of X G z_int, n_isinstance := PySem.W.mg_none_of X G z_isinstance, n_len := PySem.W.mg_none_of X G z_len, n_list := PySem.W.mg_none_of X G z_list, n_max := PySem.W.mg_none_of X G z_max, n_range := PySem.W.mg_none_of X G z_range, n_str := PySem.W.mg_none_of X G z_str, n_sum := PySem.W.mg_none_of X G z_sum, n_tuple := PySem.W.mg_none_of X G z_tuple, g_MOST_DEEP := ⟨_, PySem.W.mg_of X G y_MOST_DEEP⟩, g_MOST_PARTS := ⟨_, PySem.W.mg_of X G y_MOST_PARTS⟩, g_MOST_SIGNS := ⟨_, PySem.W.mg_of X G y_MOST_SIGNS⟩, g_MOST_SIZE := ⟨_, PySem.W.mg_of X G y_MOST_SIZE⟩ }
  obtain ⟨cA, e_BadKeep, e_BadName, e_BadRule, e_BadText, e_BadThing, e_BadTree, e_WrightError⟩ : ∃ cA : Str → Addr, cA "BadKeep" = C_BadKeep ∧ cA "BadName" = C_BadName ∧ cA "BadRule" = C_BadRule ∧ cA "BadText" = C_BadText ∧ cA "BadThing" = C_BadThing ∧ cA "BadTree" = C_BadTree ∧ cA "WrightError" = C_WrightError := ⟨fun x => if x = "BadKeep" then C_BadKeep else if x = "BadName" then C_BadName else if x = "BadRule" then C_BadRule else if x = "BadText" then C_BadText else if x = "BadThing" then C_BadThing else if x = "BadTree" then C_BadTree else if x = "WrightError" then C_WrightError else 0, if_pos rfl, (if_neg (by decide)).trans <| if_pos rfl, (if_neg (by decide)).trans <| (if_neg (by decide)).trans <| if_pos rfl, (if_neg (by decide)).trans <| (if_neg (by decide)).trans <| (if_neg (by decide)).trans <| if_pos rfl, (if_neg (by decide)).trans <| (if_neg (by decide)).trans <| (if_neg (by decide)).trans <| (if_neg (by decide)).trans <| if_pos rfl, (if_neg (by decide)).trans <| (if_neg (by decide)).trans <| (if_neg (by decide)).trans <| (if_neg (by decide)).trans <| (if_neg (by decide)).trans <| if_pos rfl, (if_neg (by decide)).trans <| (if_neg (by decide)).trans <| (if_neg (by decide)).trans <| (if_neg (by decide)).trans <| (if_neg (by decide)).trans <| (if_neg (by decide)).trans <| if_pos rfl⟩
  have C : Exs K mg cA := { b_BadTree := by rw [e_BadTree]; exact b_BadTree, g_BadKeep := by rw [e_BadKeep]; exact PySem.W.mg_of X G a_BadKeep, g_BadName := by rw [e_BadName]; exact PySem.W.mg_of X G a_BadName, g_BadRule := by rw [e_BadRule]; exact PySem.W.mg_of X G a_BadRule, g_BadText := by rw [e_BadText]; exact PySem.W.mg_of X G a_BadText, g_BadThing := by rw [e_BadThing]; exact PySem.W.mg_of X G a_BadThing, g_BadTree := by rw [e_BadTree]; exact PySem.W.mg_of X G a_BadTree, g_WrightError := by rw [e_WrightError]; exact PySem.W.mg_of X G a_WrightError, i_BadTree := by rw [e_BadTree]; exact ⟨i_BadTree_hg, i_BadTree_hk, i_BadTree_hs, i_BadTree_hd, i_BadTree_ha, i_BadTree_hn, i_BadTree_ht, i_BadTree_hm⟩, k_BadTree := by rw [e_BadTree]; exact k_BadTree, m_BadTree_WrightError := by rw [e_BadTree, e_WrightError]; exact m_BadTree_WrightError, n_BadKeep := by rw [e_BadKeep]; exact n_BadKeep, n_BadName := by rw [e_BadName]; exact n_BadName, n_BadRule := by rw [e_BadRule]; exact n_BadRule, n_BadText := by rw [e_BadText]; exact n_BadText, n_BadThing := by rw [e_BadThing]; exact n_BadThing, n_BadTree := by rw [e_BadTree]; exact n_BadTree, n_ValueError := by exact n_ValueError, q_BadTree_BadKeep := by rw [e_BadKeep, e_BadTree]; exact q_BadTree_BadKeep, q_BadTree_BadName := by rw [e_BadName, e_BadTree]; exact q_BadTree_BadName, q_BadTree_BadRule := by rw [e_BadRule, e_BadTree]; exact q_BadTree_BadRule, q_BadTree_BadText := by rw [e_BadText, e_BadTree]; exact q_BadTree_BadText, q_BadTree_BadThing := by rw [e_BadThing, e_BadTree]; exact q_BadTree_BadThing, q_BadTree_BadTree := by rw [e_BadTree]; exact q_BadTree_BadTree, q_BadTree_ValueError := by rw [e_BadTree]; exact q_BadTree_ValueError, t_BadTree := by rw [e_BadTree]; exact t_BadTree, x_BadTree := by rw [e_BadTree]; exact x_BadTree }
  have U__law_pot := fun_mk (st := s__law_pot) l__law_pot c__law_pot k__law_pot
  have U__law_take := fun_mk (st := s__law_take) l__law_take c__law_take k__law_take
  have U__law_signs := fun_mk (st := s__law_signs) l__law_signs c__law_signs k__law_signs
  have U__law_text := fun_mk (st := s__law_text) l__law_text c__law_text k__law_text
  have U__law_tree := fun_mk (st := s__law_tree) l__law_tree c__law_tree k__law_tree
  have U__law_measure := fun_mk (st := s__law_measure) l__law_measure c__law_measure k__law_measure
  have U__law_is_tree := fun_mk (st := s__law_is_tree) l__law_is_tree c__law_is_tree k__law_is_tree
  have U__law_good_tree := fun_mk (st := s__law_good_tree) l__law_good_tree c__law_good_tree k__law_good_tree
  have U_tree_text := fun_mk (st := s_tree_text) l_tree_text c_tree_text k_tree_text
  have U__law_changed := fun_mk (st := s__law_changed) l__law_changed c__law_changed k__law_changed
  have U__law_text_in := fun_mk (st := s__law_text_in) l__law_text_in c__law_text_in k__law_text_in
  have U__law_tree_in := fun_mk (st := s__law_tree_in) l__law_tree_in c__law_tree_in k__law_tree_in
  have U__law_due := fun_mk (st := s__law_due) l__law_due c__law_due k__law_due
  have U_text_from := fun_mk (st := s_text_from) l_text_from c_text_from k_text_from
  have U_row_from := fun_mk (st := s_row_from) l_row_from c_row_from k_row_from
  have U_tree_from := fun_mk (st := s_tree_from) l_tree_from c_tree_from k_tree_from
  have U_is_plain := fun_mk (st := s_is_plain) l_is_plain c_is_plain k_is_plain
  have U_room_left := fun_mk (st := s_room_left) l_room_left c_room_left k_room_left
  have U_is_tree := fun_mk (st := s_is_tree) l_is_tree c_is_tree k_is_tree
  have U_read_tree := fun_mk (st := s_read_tree) l_read_tree c_read_tree k_read_tree
  have U__law_read := fun_mk (st := s__law_read) l__law_read c__law_read k__law_read
  have U__law_written := fun_mk (st := s__law_written) l__law_written c__law_written k__law_written
  have U_law := fun_mk (st := s_law) l_law c_law k_law
  refine ⟨PySem.W.fnOf "law" "law" (defArgs s_law) (defBody s_law) (defScope s_law) .none kV_law dc_law pm_law an_law cd_law ct_law, fun s v => .of_eq rfl, fun base _ _ => ?_⟩
  have F__law_pot : FD PySem.Challenge.pw_askwright_k03_trees_written_and_read w K mg base cA 1 "_law_pot" 2 m__law_pot   := ok__law_pot T C  U__law_pot (PySem.W.mg_of X G a__law_pot) k__law_pot (U__law_pot.binds (ps := ["cell", "salt"]) fun _ _ _ _ _ _ us hl => match us, hl with | [_, _], _ => rfl)
  have F__law_take : FD PySem.Challenge.pw_askwright_k03_trees_written_and_read w K mg base cA 1 "_law_take" 2 m__law_take   := ok__law_take T C  U__law_take (PySem.W.mg_of X G a__law_take) k__law_take (U__law_take.binds (ps := ["pot", "many"]) fun _ _ _ _ _ _ us hl => match us, hl with | [_, _], _ => rfl)
  have F__law_signs : FD PySem.Challenge.pw_askwright_k03_trees_written_and_read w K mg base cA 1 "_law_signs" 0 m__law_signs   := ok__law_signs T C  U__law_signs (PySem.W.mg_of X G a__law_signs) k__law_signs (U__law_signs.binds (ps := []) fun _ _ _ _ _ _ us hl => match us, hl with | [], _ => rfl)
  have F__law_text : FD PySem.Challenge.pw_askwright_k03_trees_written_and_read w K mg base cA 2 "_law_text" 1 m__law_text   := ok__law_text T C F__law_signs F__law_take U__law_text (PySem.W.mg_of X G a__law_text) k__law_text (U__law_text.binds (ps := ["pot"]) fun _ _ _ _ _ _ us hl => match us, hl with | [_], _ => rfl)
  have FF__law_tree : ∀ n : Nat, FD PySem.Challenge.pw_askwright_k03_trees_written_and_read w K mg base cA (3 + n) "_law_tree" 2 (m__law_tree n) := by
    intro n
    induction n with
    | zero => exact (fd_bad U__law_tree (PySem.W.mg_of X G a__law_tree) k__law_tree (U__law_tree.binds (ps := ["pot", "deep"]) fun _ _ _ _ _ _ us hl => match us, hl with | [_, _], _ => rfl) sc__law_tree : FD PySem.Challenge.pw_askwright_k03_trees_written_and_read w K mg base cA (2 + 1) "_law_tree" 2 (fun _ _ => .bad))
    | succ n ih => exact ok__law_tree T C F__law_take F__law_text n ih U__law_tree (PySem.W.mg_of X G a__law_tree) k__law_tree (U__law_tree.binds (ps := ["pot", "deep"]) fun _ _ _ _ _ _ us hl => match us, hl with | [_, _], _ => rfl)
  have F__law_tree : FD PySem.Challenge.pw_askwright_k03_trees_written_and_read w K mg base cA 173 "_law_tree" 2 (m__law_tree 170) := (FF__law_tree 170)
  have FF__law_measure : ∀ n : Nat, FD PySem.Challenge.pw_askwright_k03_trees_written_and_read w K mg base cA (2 + n) "_law_measure" 1 (m__law_measure n) := by
    intro n
    induction n with
    | zero => exact (fd_bad U__law_measure (PySem.W.mg_of X G a__law_measure) k__law_measure (U__law_measure.binds (ps := ["value"]) fun _ _ _ _ _ _ us hl => match us, hl with | [_], _ => rfl) sc__law_measure : FD PySem.Challenge.pw_askwright_k03_trees_written_and_read w K mg base cA (1 + 1) "_law_measure" 1 (fun _ _ => .bad))
    | succ n ih => exact ok__law_measure T C F__law_signs n ih U__law_measure (PySem.W.mg_of X G a__law_measure) k__law_measure (U__law_measure.binds (ps := ["value"]) fun _ _ _ _ _ _ us hl => match us, hl with | [_], _ => rfl)
  have F__law_measure : FD PySem.Challenge.pw_askwright_k03_trees_written_and_read w K mg base cA 172 "_law_measure" 1 (m__law_measure 170) := (FF__law_measure 170)
  have F__law_is_tree : FD PySem.Challenge.pw_askwright_k03_trees_written_and_read w K mg base cA 173 "_law_is_tree" 1 m__law_is_tree   := ok__law_is_tree T C F__law_measure U__law_is_tree (PySem.W.mg_of X G a__law_is_tree) k__law_is_tree (U__law_is_tree.binds (ps := ["value"]) fun _ _ _ _ _ _ us hl => match us, hl with | [_], _ => rfl)
  have F__law_good_tree : FD PySem.Challenge.pw_askwright_k03_trees_written_and_read w K mg base cA 174 "_law_good_tree" 1 m__law_good_tree   := ok__law_good_tree T C F__law_tree F__law_is_tree F__law_take U__law_good_tree (PySem.W.mg_of X G a__law_good_tree) k__law_good_tree (U__law_good_tree.binds (ps := ["pot"]) fun _ _ _ _ _ _ us hl => match us, hl with | [_], _ => rfl)
  have FF_tree_text : ∀ n : Nat, FD PySem.Challenge.pw_askwright_k03_trees_written_and_read w K mg base cA (1 + n) "tree_text" 1 (m_tree_text n) := by
    intro n
    induction n with
    | zero => exact (fd_bad U_tree_text (PySem.W.mg_of X G a_tree_text) k_tree_text (U_tree_text.binds (ps := ["tree"]) fun _ _ _ _ _ _ us hl => match us, hl with | [_], _ => rfl) sc_tree_text : FD PySem.Challenge.pw_askwright_k03_trees_written_and_read w K mg base cA (0 + 1) "tree_text" 1 (fun _ _ => .bad))
    | succ n ih => exact ok_tree_text T C  n ih U_tree_text (PySem.W.mg_of X G a_tree_text) k_tree_text (U_tree_text.binds (ps := ["tree"]) fun _ _ _ _ _ _ us hl => match us, hl with | [_], _ => rfl)
  have F_tree_text : FD PySem.Challenge.pw_askwright_k03_trees_written_and_read w K mg base cA 171 "tree_text" 1 (m_tree_text 170) := (FF_tree_text 170)
  have F__law_changed : FD PySem.Challenge.pw_askwright_k03_trees_written_and_read w K mg base cA 2 "_law_changed" 2 m__law_changed   := ok__law_changed T C F__law_take U__law_changed (PySem.W.mg_of X G a__law_changed) k__law_changed (U__law_changed.binds (ps := ["text", "pot"]) fun _ _ _ _ _ _ us hl => match us, hl with | [_, _], _ => rfl)
  have F__law_text_in : FD PySem.Challenge.pw_askwright_k03_trees_written_and_read w K mg base cA 1 "_law_text_in" 2 m__law_text_in   := ok__law_text_in T C  U__law_text_in (PySem.W.mg_of X G a__law_text_in) k__law_text_in (U__law_text_in.binds (ps := ["text", "spot"]) fun _ _ _ _ _ _ us hl => match us, hl with | [_, _], _ => rfl)
  have FF__law_tree_in : ∀ n : Nat, FD PySem.Challenge.pw_askwright_k03_trees_written_and_read w K mg base cA (2 + n) "_law_tree_in" 2 (m__law_tree_in n) := by
    intro n
    induction n with
    | zero => exact (fd_bad U__law_tree_in (PySem.W.mg_of X G a__law_tree_in) k__law_tree_in (U__law_tree_in.binds (ps := ["text", "spot"]) fun _ _ _ _ _ _ us hl => match us, hl with | [_, _], _ => rfl) sc__law_tree_in : FD PySem.Challenge.pw_askwright_k03_trees_written_and_read w K mg base cA (1 + 1) "_law_tree_in" 2 (fun _ _ => .bad))
    | succ n ih => exact ok__law_tree_in T C F__law_text_in n ih U__law_tree_in (PySem.W.mg_of X G a__law_tree_in) k__law_tree_in (U__law_tree_in.binds (ps := ["text", "spot"]) fun _ _ _ _ _ _ us hl => match us, hl with | [_, _], _ => rfl)
  have F__law_tree_in : FD PySem.Challenge.pw_askwright_k03_trees_written_and_read w K mg base cA 172 "_law_tree_in" 2 (m__law_tree_in 170) := (FF__law_tree_in 170)
  have F__law_due : FD PySem.Challenge.pw_askwright_k03_trees_written_and_read w K mg base cA 174 "_law_due" 1 m__law_due   := ok__law_due T C F__law_tree_in F__law_is_tree U__law_due (PySem.W.mg_of X G a__law_due) k__law_due (U__law_due.binds (ps := ["text"]) fun _ _ _ _ _ _ us hl => match us, hl with | [_], _ => rfl)
  have F_text_from : FD PySem.Challenge.pw_askwright_k03_trees_written_and_read w K mg base cA 1 "text_from" 2 m_text_from   := ok_text_from T C  U_text_from (PySem.W.mg_of X G a_text_from) k_text_from (U_text_from.binds (ps := ["text", "at"]) fun _ _ _ _ _ _ us hl => match us, hl with | [_, _], _ => rfl)
  have FF_tree_from : ∀ n : Nat, FD PySem.Challenge.pw_askwright_k03_trees_written_and_read w K mg base cA (2 + n) "row_from" 3 (m_row_from n) ∧ FD PySem.Challenge.pw_askwright_k03_trees_written_and_read w K mg base cA (2 + n) "tree_from" 3 (m_tree_from n) := by
    intro n
    induction n with
    | zero => exact ⟨(fd_bad U_row_from (PySem.W.mg_of X G a_row_from) k_row_from (U_row_from.binds (ps := ["text", "at", "deep"]) fun _ _ _ _ _ _ us hl => match us, hl with | [_, _, _], _ => rfl) sc_row_from : FD PySem.Challenge.pw_askwright_k03_trees_written_and_read w K mg base cA (1 + 1) "row_from" 3 (fun _ _ => .bad)), (fd_bad U_tree_from (PySem.W.mg_of X G a_tree_from) k_tree_from (U_tree_from.binds (ps := ["text", "at", "deep"]) fun _ _ _ _ _ _ us hl => match us, hl with | [_, _, _], _ => rfl) sc_tree_from : FD PySem.Challenge.pw_askwright_k03_trees_written_and_read w K mg base cA (1 + 1) "tree_from" 3 (fun _ _ => .bad))⟩
    | succ n ih => exact ⟨ok_row_from T C  n ih.1 ih.2 U_row_from (PySem.W.mg_of X G a_row_from) k_row_from (U_row_from.binds (ps := ["text", "at", "deep"]) fun _ _ _ _ _ _ us hl => match us, hl with | [_, _, _], _ => rfl), ok_tree_from T C F_text_from n ih.1 ih.2 U_tree_from (PySem.W.mg_of X G a_tree_from) k_tree_from (U_tree_from.binds (ps := ["text", "at", "deep"]) fun _ _ _ _ _ _ us hl => match us, hl with | [_, _, _], _ => rfl)⟩
  have F_row_from : FD PySem.Challenge.pw_askwright_k03_trees_written_and_read w K mg base cA 172 "row_from" 3 (m_row_from 170) := (FF_tree_from 170).1
  have F_tree_from : FD PySem.Challenge.pw_askwright_k03_trees_written_and_read w K mg base cA 172 "tree_from" 3 (m_tree_from 170) := (FF_tree_from 170).2
  have F_is_plain : FD PySem.Challenge.pw_askwright_k03_trees_written_and_read w K mg base cA 1 "is_plain" 1 m_is_plain   := ok_is_plain T C  U_is_plain (PySem.W.mg_of X G a_is_plain) k_is_plain (U_is_plain.binds (ps := ["value"]) fun _ _ _ _ _ _ us hl => match us, hl with | [_], _ => rfl)
  have FF_room_left : ∀ n : Nat, FD PySem.Challenge.pw_askwright_k03_trees_written_and_read w K mg base cA (2 + n) "room_left" 3 (m_room_left n) := by
    intro n
    induction n with
    | zero => exact (fd_bad U_room_left (PySem.W.mg_of X G a_room_left) k_room_left (U_room_left.binds (ps := ["value", "deep", "room"]) fun _ _ _ _ _ _ us hl => match us, hl with | [_, _, _], _ => rfl) sc_room_left : FD PySem.Challenge.pw_askwright_k03_trees_written_and_read w K mg base cA (1 + 1) "room_left" 3 (fun _ _ => .bad))
    | succ n ih => exact ok_room_left T C F_is_plain n ih U_room_left (PySem.W.mg_of X G a_room_left) k_room_left (U_room_left.binds (ps := ["value", "deep", "room"]) fun _ _ _ _ _ _ us hl => match us, hl with | [_, _, _], _ => rfl)
  have F_room_left : FD PySem.Challenge.pw_askwright_k03_trees_written_and_read w K mg base cA 172 "room_left" 3 (m_room_left 170) := (FF_room_left 170)
  have F_is_tree : FD PySem.Challenge.pw_askwright_k03_trees_written_and_read w K mg base cA 173 "is_tree" 1 m_is_tree   := ok_is_tree T C F_room_left U_is_tree (PySem.W.mg_of X G a_is_tree) k_is_tree (U_is_tree.binds (ps := ["value"]) fun _ _ _ _ _ _ us hl => match us, hl with | [_], _ => rfl)
  have F_read_tree : FD PySem.Challenge.pw_askwright_k03_trees_written_and_read w K mg base cA 174 "read_tree" 1 m_read_tree   := ok_read_tree T C F_tree_from F_is_tree F_tree_text U_read_tree (PySem.W.mg_of X G a_read_tree) k_read_tree (U_read_tree.binds (ps := ["text"]) fun _ _ _ _ _ _ us hl => match us, hl with | [_], _ => rfl)
  have F__law_read : FD PySem.Challenge.pw_askwright_k03_trees_written_and_read w K mg base cA 175 "_law_read" 1 m__law_read   := ok__law_read T C F_read_tree U__law_read (PySem.W.mg_of X G a__law_read) k__law_read (U__law_read.binds (ps := ["text"]) fun _ _ _ _ _ _ us hl => match us, hl with | [_], _ => rfl)
  have FF__law_written : ∀ n : Nat, FD PySem.Challenge.pw_askwright_k03_trees_written_and_read w K mg base cA (1 + n) "_law_written" 1 (m__law_written n) := by
    intro n
    induction n with
    | zero => exact (fd_bad U__law_written (PySem.W.mg_of X G a__law_written) k__law_written (U__law_written.binds (ps := ["tree"]) fun _ _ _ _ _ _ us hl => match us, hl with | [_], _ => rfl) sc__law_written : FD PySem.Challenge.pw_askwright_k03_trees_written_and_read w K mg base cA (0 + 1) "_law_written" 1 (fun _ _ => .bad))
    | succ n ih => exact ok__law_written T C  n ih U__law_written (PySem.W.mg_of X G a__law_written) k__law_written (U__law_written.binds (ps := ["tree"]) fun _ _ _ _ _ _ us hl => match us, hl with | [_], _ => rfl)
  have F__law_written : FD PySem.Challenge.pw_askwright_k03_trees_written_and_read w K mg base cA 171 "_law_written" 1 (m__law_written 170) := (FF__law_written 170)
  exact ok_law T C F__law_pot F__law_good_tree F_tree_text F__law_written F__law_read F__law_changed F__law_due F_read_tree U_law hm


end Law
open PySem PySem.W PyProof.Rows
set_option maxHeartbeats 0 in
theorem PySem.Challenge.cw_askwright_k03_trees_written_and_read_holds : PySem.Challenge.rw_askwright_k03_trees_written_and_read.Holds := by
  w_on; o_law; k_head; (case hw => w_witness2)
  k_fill
  refine L2.walk_of (l := PySem.Challenge.rw_askwright_k03_trees_written_and_read) (n := 63) (k := 176) (x := "script") (CX := fun _ => L2.CX0) (sp := fun w => DL.spLaw _ 63) rfl (by decide) rfl ⟨rfl, by decide, by decide⟩ (fun w h Y => PySem.W.kIn_of Y) ?F (fun _ _ a ns hl _ hS => ⟨a, ns, rfl, hS, hl, fun _ => rfl⟩) (fun _ _ _ _ _ h => h)
  case F =>
    intro w mg fa h KX G hmg
    refine' Law.all_mk KX G hmg ?a__law_pot ?l__law_pot ?c__law_pot ?k__law_pot ?a__law_take ?l__law_take ?c__law_take ?k__law_take ?a__law_signs ?l__law_signs ?c__law_signs ?k__law_signs ?a__law_text ?l__law_text ?c__law_text ?k__law_text ?a__law_tree ?l__law_tree ?c__law_tree ?k__law_tree ?a__law_measure ?l__law_measure ?c__law_measure ?k__law_measure ?a__law_is_tree ?l__law_is_tree ?c__law_is_tree ?k__law_is_tree ?a__law_good_tree ?l__law_good_tree ?c__law_good_tree ?k__law_good_tree ?a_tree_text ?l_tree_text ?c_tree_text ?k_tree_text ?a__law_changed ?l__law_changed ?c__law_changed ?k__law_changed ?a__law_text_in ?l__law_text_in ?c__law_text_in ?k__law_text_in ?a__law_tree_in ?l__law_tree_in ?c__law_tree_in ?k__law_tree_in ?a__law_due ?l__law_due ?c__law_due ?k__law_due ?a_text_from ?l_text_from ?c_text_from ?k_text_from ?a_row_from ?l_row_from ?c_row_from ?k_row_from ?a_tree_from ?l_tree_from ?c_tree_from ?k_tree_from ?a_is_plain ?l_is_plain ?c_is_plain ?k_is_plain ?a_room_left ?l_room_left ?c_room_left ?k_room_left ?a_is_tree ?l_is_tree ?c_is_tree ?k_is_tree ?a_read_tree ?l_read_tree ?c_read_tree ?k_read_tree ?a__law_read ?l__law_read ?c__law_read ?k__law_read ?a__law_written ?l__law_written ?c__law_written ?k__law_written ?a_law ?l_law ?c_law ?k_law ?z_ValueError ?z_abs ?z_all ?z_int ?z_isinstance ?z_len ?z_list ?z_max ?z_range ?z_str ?z_sum ?z_tuple ?y_MOST_DEEP ?y_MOST_PARTS ?y_MOST_SIGNS ?y_MOST_SIZE ?a_BadKeep ?a_BadName ?a_BadRule ?a_BadText ?a_BadThing ?a_BadTree ?a_WrightError ?b_BadTree ?i_BadTree_hg ?i_BadTree_hk ?i_BadTree_hs ?i_BadTree_hd ?i_BadTree_ha ?i_BadTree_hn ?i_BadTree_ht ?i_BadTree_hm ?k_BadTree ?m_BadTree_WrightError ?n_BadKeep ?n_BadName ?n_BadRule ?n_BadText ?n_BadThing ?n_BadTree ?n_ValueError ?q_BadTree_BadKeep ?q_BadTree_BadName ?q_BadTree_BadRule ?q_BadTree_BadText ?q_BadTree_BadThing ?q_BadTree_BadTree ?q_BadTree_ValueError ?t_BadTree ?x_BadTree Law.law_true
    (case a__law_pot => k_is); (case l__law_pot => k_is); (case c__law_pot => k_is); (case k__law_pot => k_is); (case a__law_take => k_is); (case l__law_take => k_is); (case c__law_take => k_is); (case k__law_take => k_is); (case a__law_signs => k_is); (case l__law_signs => k_is); (case c__law_signs => k_is); (case k__law_signs => k_is); (case a__law_text => k_is); (case l__law_text => k_is); (case c__law_text => k_is); (case k__law_text => k_is); (case a__law_tree => k_is); (case l__law_tree => k_is); (case c__law_tree => k_is); (case k__law_tree => k_is); (case a__law_measure => k_is); (case l__law_measure => k_is); (case c__law_measure => k_is); (case k__law_measure => k_is); (case a__law_is_tree => k_is); (case l__law_is_tree => k_is); (case c__law_is_tree => k_is); (case k__law_is_tree => k_is); (case a__law_good_tree => k_is); (case l__law_good_tree => k_is); (case c__law_good_tree => k_is); (case k__law_good_tree => k_is); (case a_tree_text => k_is); (case l_tree_text => k_is); (case c_tree_text => k_is); (case k_tree_text => k_is); (case a__law_changed => k_is); (case l__law_changed => k_is); (case c__law_changed => k_is); (case k__law_changed => k_is); (case a__law_text_in => k_is); (case l__law_text_in => k_is); (case c__law_text_in => k_is); (case k__law_text_in => k_is); (case a__law_tree_in => k_is); (case l__law_tree_in => k_is); (case c__law_tree_in => k_is); (case k__law_tree_in => k_is); (case a__law_due => k_is); (case l__law_due => k_is); (case c__law_due => k_is); (case k__law_due => k_is); (case a_text_from => k_is); (case l_text_from => k_is); (case c_text_from => k_is); (case k_text_from => k_is); (case a_row_from => k_is); (case l_row_from => k_is); (case c_row_from => k_is); (case k_row_from => k_is); (case a_tree_from => k_is); (case l_tree_from => k_is); (case c_tree_from => k_is); (case k_tree_from => k_is); (case a_is_plain => k_is); (case l_is_plain => k_is); (case c_is_plain => k_is); (case k_is_plain => k_is); (case a_room_left => k_is); (case l_room_left => k_is); (case c_room_left => k_is); (case k_room_left => k_is); (case a_is_tree => k_is); (case l_is_tree => k_is); (case c_is_tree => k_is); (case k_is_tree => k_is); (case a_read_tree => k_is); (case l_read_tree => k_is); (case c_read_tree => k_is); (case k_read_tree => k_is); (case a__law_read => k_is); (case l__law_read => k_is); (case c__law_read => k_is); (case k__law_read => k_is); (case a__law_written => k_is); (case l__law_written => k_is); (case c__law_written => k_is); (case k__law_written => k_is); (case a_law => k_is); (case l_law => k_is); (case c_law => k_is); (case k_law => k_is); (case z_ValueError => k_is); (case z_abs => k_is); (case z_all => k_is); (case z_int => k_is); (case z_isinstance => k_is); (case z_len => k_is); (case z_list => k_is); (case z_max => k_is); (case z_range => k_is); (case z_str => k_is); (case z_sum => k_is); (case z_tuple => k_is); (case y_MOST_DEEP => k_is); (case y_MOST_PARTS => k_is); (case y_MOST_SIGNS => k_is); (case y_MOST_SIZE => k_is); (case a_BadKeep => k_is); (case a_BadName => k_is); (case a_BadRule => k_is); (case a_BadText => k_is); (case a_BadThing => k_is); (case a_BadTree => k_is); (case a_WrightError => k_is); (case b_BadTree => k_is); (case i_BadTree_hg => k_is); (case i_BadTree_hk => k_is); (case i_BadTree_hs => k_is); (case i_BadTree_hd => k_is); (case i_BadTree_ha => k_is); (case i_BadTree_hn => k_is); (case i_BadTree_ht => k_is); (case i_BadTree_hm => k_is); (case k_BadTree => k_is); (case m_BadTree_WrightError => kts_exm); (case n_BadKeep => kit_is); (case n_BadName => kit_is); (case n_BadRule => kit_is); (case n_BadText => kit_is); (case n_BadThing => kit_is); (case n_BadTree => kit_is); (case n_ValueError => kit_is); (case q_BadTree_BadKeep => kit_is); (case q_BadTree_BadName => kit_is); (case q_BadTree_BadRule => kit_is); (case q_BadTree_BadText => kit_is); (case q_BadTree_BadThing => kit_is); (case q_BadTree_BadTree => kit_is); (case q_BadTree_ValueError => kit_is); (case t_BadTree => k_is); (case x_BadTree => k_exc)

