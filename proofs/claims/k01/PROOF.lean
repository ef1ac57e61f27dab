import PyProof.Rows.All
import Wide.All
import OpenK.AllK
import Wide.FinOn
import HandS.ForMost
import HandS.DictComp
import HandS.ListItems
import HandS.Defaults
import HandS.Deep
import HandS.IsInst
import HandS.HeadHook2
import HandS.HeadEnd
import HandS.EndBits
import HandS.More
import HandS.Conv
import HandS.SortInts
import HandS.Rev
import HandS.MakeKwOnly
import HandS.MakeKw
import HandS.OwnEq
import HandS.OwnIter
import HandS.IterVal
import HandS.HeadHook1
import KE.KDictCopyH
import HandS.DictTup
import HandS.FStr
import HandS.RaiseMore
import HandS.TupLe
import KE.KStateDown
import HandS.Head0
import HandS.Head1
import HandS.Head2
import HandS.Words
import PySem.Challenge.RW_fogbeacons_k01_keepers_in_order
set_option Elab.async false
set_option linter.all false
set_option maxRecDepth 100000
/-! VCore: the value layer: data as trees, what stands in the heap for a tree, steps. -/
namespace VI
open PySem L2
/-- Python's data as trees; a mutable node bears m: true where it is owned by whoever holds the tree (it may be changed), false where it is shared -/
inductive D where
  | non | bl (b : Bool) | int (i : Int) | str (s : Str)
  | tup (xs : List D)
  | lst (m : Bool) (xs : List D)
  | dct (m : Bool) (ks : List Key) (xs : List D)
  | dtt (m : Bool) (ks : List (List Key)) (xs : List D)
  | obj (m : Bool) (c : Nat) (fs : List Str) (xs : List D)
  /-- the law's script -/
  | scr (ns : List Int)
  /-- a tuple of the module's own -/
  | ktup (xs : List D)
mutual
def D.frz : D → D
  | .non => .non | .bl b => .bl b | .int i => .int i | .str s => .str s | .scr ns => .scr ns | .ktup xs => .ktup xs
  | .tup xs => .tup (frzL xs)
  | .lst _ xs => .lst false (frzL xs)
  | .dct _ ks xs => .dct false ks (frzL xs)
  | .dtt _ ks xs => .dtt false ks (frzL xs)
  | .obj _ c fs xs => .obj false c fs (frzL xs)
def D.frzL : List D → List D
  | [] => []
  | x :: xs => x.frz :: frzL xs
end
mutual
/-- nothing owned in it -/
def D.plain : D → Bool
  | .tup xs => plainL xs
  | .lst m _ => !m
  | .dct m _ _ => !m
  | .dtt m _ _ => !m
  | .obj m _ _ _ => !m
  | _ => true
def D.plainL : List D → Bool
  | [] => true
  | x :: xs => x.plain && plainL xs
end
mutual
/-- nothing shared and mutable in it -/
def D.clean : D → Bool
  | .tup xs => cleanL xs
  | .lst m xs => m && cleanL xs
  | .dct m _ xs => m && cleanL xs
  | .dtt m _ xs => m && cleanL xs
  | .obj m _ _ xs => m && cleanL xs
  | .scr _ => false
  | .ktup _ => false
  | _ => true
def D.cleanL : List D → Bool
  | [] => true
  | x :: xs => x.clean && cleanL xs
end
section
variable (K : PySem.W.Frag) (cl : Nat → Addr) (B H : Hp)
mutual
/-- v stands for the tree d: shared nodes in B, owned ones in H, at the addresses fp -/
def Rep : D → V → List Addr → Prop
  | .non, v, fp => v = .non ∧ fp = []
  | .bl b, v, fp => v = .bl b ∧ fp = []
  | .int i, v, fp => v = .int i ∧ fp = []
  | .str s, v, fp => v = .str s ∧ fp = []
  | .tup ds, v, fp => ∃ a vs, v = .ref a ∧ B a = some (.tup vs) ∧ RepL ds vs fp
  | .ktup ds, v, fp => ∃ a vs, v = .ref a ∧ SqT K B a vs ∧ RepL ds vs [] ∧ fp = []
  | .scr ns, v, fp => ∃ a, v = .ref a ∧ SqL K B a (ns.map V.int) ∧ fp = []
  | .lst false ds, v, fp => ∃ a vs, v = .ref a ∧ B a = some (.lst vs) ∧ RepL ds vs [] ∧ fp = []
  | .lst true ds, v, fp => ∃ a vs fq, v = .ref a ∧ H a = some (.lst vs) ∧ RepL ds vs fq ∧ fp = a :: fq
  | .dct false ks ds, v, fp => ∃ a vs, v = .ref a ∧ Rd B a (.dK (ks.zip vs)) ∧ ks.length = ds.length ∧ RepL ds vs [] ∧ fp = []
  | .dct true ks ds, v, fp => ∃ a vs fq, v = .ref a ∧ H a = some (.dK (ks.zip vs)) ∧ ks.length = ds.length ∧ RepL ds vs fq ∧ fp = a :: fq
  | .dtt false ks ds, v, fp => ∃ a vs, v = .ref a ∧ Rd B a (.dT (ks.zip vs)) ∧ ks.length = ds.length ∧ RepL ds vs [] ∧ fp = []
  | .dtt true ks ds, v, fp => ∃ a vs fq, v = .ref a ∧ H a = some (.dT (ks.zip vs)) ∧ ks.length = ds.length ∧ RepL ds vs fq ∧ fp = a :: fq
  | .obj false c fs ds, v, fp => ∃ a dx vs, v = .ref a ∧ B a = some (.ins (cl c) dx (fs.zip vs)) ∧ fs.length = ds.length ∧ RepL ds vs [] ∧ fp = []
  | .obj true c fs ds, v, fp => ∃ a dx vs fq, v = .ref a ∧ H a = some (.ins (cl c) dx (fs.zip vs)) ∧ fs.length = ds.length ∧ RepL ds vs fq ∧ fp = a :: fq
def RepL : List D → List V → List Addr → Prop
  | [], vs, fp => vs = [] ∧ fp = []
  | d :: ds, vs, fp => ∃ v vr f1 f2, vs = v :: vr ∧ fp = f1 ++ f2 ∧ Rep d v f1 ∧ RepL ds vr f2
end
end
/-- all that B tells, B' tells -/
structure BLe (B B' : Hp) : Prop where
  rd : ∀ a u, Rd B a u → Rd B' a u
  ins : ∀ a C dx fs, B a = some (.ins C dx fs) → B' a = some (.ins C dx fs)
  lst : ∀ a vs, B a = some (.lst vs) → B' a = some (.lst vs)
  tup : ∀ a vs, B a = some (.tup vs) → B' a = some (.tup vs)
theorem BLe.refl (B : Hp) : BLe B B := ⟨fun _ _ h => h, fun _ _ _ _ h => h, fun _ _ h => h, fun _ _ h => h⟩
theorem BLe.trans {B B1 B2 : Hp} (a : BLe B B1) (b : BLe B1 B2) : BLe B B2 := ⟨fun p u h => b.rd p u (a.rd p u h), fun p C dx fs h => b.ins p C dx fs (a.ins p C dx fs h), fun p vs h => b.lst p vs (a.lst p vs h), fun p vs h => b.tup p vs (a.tup p vs h)⟩
theorem BLe.sqT {K : PySem.W.Frag} {B B' : Hp} (b : BLe B B') {a : Addr} {vs : List V} (h : SqT K B a vs) : SqT K B' a vs := h.imp (b.rd a _) id
theorem BLe.sqL {K : PySem.W.Frag} {B B' : Hp} (b : BLe B B') {a : Addr} {vs : List V} (h : SqL K B a vs) : SqL K B' a vs := h.imp (b.rd a _) id
/-- exactly so -/
def BEx (B B' : Hp) : Prop := ∀ a u, B a = some u → B' a = some u
theorem BEx.refl (B : Hp) : BEx B B := fun _ _ h => h
theorem BEx.trans {B B1 B2 : Hp} (a : BEx B B1) (b : BEx B1 B2) : BEx B B2 := fun p u h => b p u (a p u h)
theorem BLe.of_same {B B' : Hp} (h : ∀ a u, B a = some u → B' a = some u) : BLe B B' :=
  ⟨fun a u q => q.imp (h a u) fun ⟨o, q⟩ => ⟨o, h a _ q⟩, fun a C dx fs q => h a _ q, fun a vs q => h a _ q, fun a vs q => h a _ q⟩
theorem BEx.le {B B' : Hp} (h : BEx B B') : BLe B B' := BLe.of_same h
section
variable {K : PySem.W.Frag} {cl : Nat → Addr} {B H B' H' : Hp}
mutual
theorem Rep.mono (b : BLe B B') : ∀ {d : D} {v : V} {fp : List Addr}, (∀ a ∈ fp, H' a = H a) → Rep K cl B H d v fp → Rep K cl B' H' d v fp
  | .non, _, _, _, h => by simpa only [Rep] using h
  | .bl _, _, _, _, h => by simpa only [Rep] using h
  | .int _, _, _, _, h => by simpa only [Rep] using h
  | .str _, _, _, _, h => by simpa only [Rep] using h
  | .tup ds, _, _, k, h => by
    simp only [Rep] at h ⊢
    obtain ⟨a, vs, e, q, r⟩ := h
    exact ⟨a, vs, e, b.tup _ _ q, RepL.mono b k r⟩
  | .ktup ds, _, _, k, h => by
    simp only [Rep] at h ⊢
    obtain ⟨a, vs, e, q, r, e2⟩ := h
    exact ⟨a, vs, e, b.sqT q, RepL.mono b (fun _ z => nomatch z) r, e2⟩
  | .scr ns, _, _, _, h => by
    simp only [Rep] at h ⊢
    obtain ⟨a, e, q, e2⟩ := h
    exact ⟨a, e, b.sqL q, e2⟩
  | .lst false ds, _, _, k, h => by
    simp only [Rep] at h ⊢
    obtain ⟨a, vs, e, q, r, e2⟩ := h
    exact ⟨a, vs, e, b.lst _ _ q, RepL.mono b (fun _ z => nomatch z) r, e2⟩
  | .lst true ds, _, _, k, h => by
    simp only [Rep] at h ⊢
    obtain ⟨a, vs, fq, e, q, r, e2⟩ := h
    subst e2
    exact ⟨a, vs, fq, e, (k a (by simp)).trans q, RepL.mono b (fun c z => k c (by simp [z])) r, rfl⟩
  | .dct false ks ds, _, _, k, h => by
    simp only [Rep] at h ⊢
    obtain ⟨a, vs, e, q, l, r, e2⟩ := h
    exact ⟨a, vs, e, b.rd _ _ q, l, RepL.mono b (fun _ z => nomatch z) r, e2⟩
  | .dct true ks ds, _, _, k, h => by
    simp only [Rep] at h ⊢
    obtain ⟨a, vs, fq, e, q, l, r, e2⟩ := h
    subst e2
    exact ⟨a, vs, fq, e, (k a (by simp)).trans q, l, RepL.mono b (fun c z => k c (by simp [z])) r, rfl⟩
  | .dtt false ks ds, _, _, k, h => by
    simp only [Rep] at h ⊢
    obtain ⟨a, vs, e, q, l, r, e2⟩ := h
    exact ⟨a, vs, e, b.rd _ _ q, l, RepL.mono b (fun _ z => nomatch z) r, e2⟩
  | .dtt true ks ds, _, _, k, h => by
    simp only [Rep] at h ⊢
    obtain ⟨a, vs, fq, e, q, l, r, e2⟩ := h
    subst e2
    exact ⟨a, vs, fq, e, (k a (by simp)).trans q, l, RepL.mono b (fun c z => k c (by simp [z])) r, rfl⟩
  | .obj false c fs ds, _, _, k, h => by
    simp only [Rep] at h ⊢
    obtain ⟨a, dx, vs, e, q, l, r, e2⟩ := h
    exact ⟨a, dx, vs, e, b.ins _ _ _ _ q, l, RepL.mono b (fun _ z => nomatch z) r, e2⟩
  | .obj true c fs ds, _, _, k, h => by
    simp only [Rep] at h ⊢
    obtain ⟨a, dx, vs, fq, e, q, l, r, e2⟩ := h
    subst e2
    exact ⟨a, dx, vs, fq, e, (k a (by simp)).trans q, l, RepL.mono b (fun c z => k c (by simp [z])) r, rfl⟩
theorem RepL.mono (b : BLe B B') : ∀ {ds : List D} {vs : List V} {fp : List Addr}, (∀ a ∈ fp, H' a = H a) → RepL K cl B H ds vs fp → RepL K cl B' H' ds vs fp
  | [], _, _, _, h => by simpa only [RepL] using h
  | d :: ds, _, _, k, h => by
    simp only [RepL] at h ⊢
    obtain ⟨v, vr, f1, f2, e, e2, r, rr⟩ := h
    subst e2
    exact ⟨v, vr, f1, f2, e, rfl, Rep.mono b (fun a z => k a (by simp [z])) r, RepL.mono b (fun a z => k a (by simp [z])) rr⟩
end
theorem RepL.length : ∀ {ds : List D} {vs : List V} {fp : List Addr}, RepL K cl B H ds vs fp → ds.length = vs.length
  | [], _, _, h => by simp only [RepL] at h; rw [h.1]; rfl
  | d :: ds, _, _, h => by
    simp only [RepL] at h
    obtain ⟨v, vr, f1, f2, e, _, _, rr⟩ := h
    rw [e, List.length_cons, List.length_cons, RepL.length rr]
mutual
theorem Rep.plain : ∀ {d : D} {v : V} {fp : List Addr}, d.plain = true → Rep K cl B H d v fp → fp = []
  | .non, _, _, _, h => by simp only [Rep] at h; exact h.2
  | .bl _, _, _, _, h => by simp only [Rep] at h; exact h.2
  | .int _, _, _, _, h => by simp only [Rep] at h; exact h.2
  | .str _, _, _, _, h => by simp only [Rep] at h; exact h.2
  | .tup ds, _, _, k, h => by
    simp only [Rep] at h
    obtain ⟨a, vs, _, _, r⟩ := h
    exact RepL.plain (by simpa only [D.plain] using k) r
  | .scr _, _, _, _, h => by simp only [Rep] at h; obtain ⟨_, _, _, e⟩ := h; exact e
  | .ktup _, _, _, _, h => by simp only [Rep] at h; obtain ⟨_, _, _, _, _, e⟩ := h; exact e
  | .lst false ds, _, _, _, h => by simp only [Rep] at h; obtain ⟨_, _, _, _, _, e⟩ := h; exact e
  | .lst true ds, _, _, k, _ => by simp [D.plain] at k
  | .dct false ks ds, _, _, _, h => by simp only [Rep] at h; obtain ⟨_, _, _, _, _, _, e⟩ := h; exact e
  | .dct true ks ds, _, _, k, _ => by simp [D.plain] at k
  | .dtt false ks ds, _, _, _, h => by simp only [Rep] at h; obtain ⟨_, _, _, _, _, _, e⟩ := h; exact e
  | .dtt true ks ds, _, _, k, _ => by simp [D.plain] at k
  | .obj false _ _ ds, _, _, _, h => by simp only [Rep] at h; obtain ⟨_, _, _, _, _, _, _, e⟩ := h; exact e
  | .obj true _ _ ds, _, _, k, _ => by simp [D.plain] at k
theorem RepL.plain : ∀ {ds : List D} {vs : List V} {fp : List Addr}, D.plainL ds = true → RepL K cl B H ds vs fp → fp = []
  | [], _, _, _, h => by simp only [RepL] at h; exact h.2
  | d :: ds, _, _, k, h => by
    simp only [D.plainL, Bool.and_eq_true] at k
    simp only [RepL] at h
    obtain ⟨v, vr, f1, f2, _, e2, r, rr⟩ := h
    rw [e2, Rep.plain k.1 r, RepL.plain k.2 rr]; rfl
end
theorem D.frzL_length : ∀ (ds : List D), (D.frzL ds).length = ds.length
  | [] => rfl
  | d :: ds => by rw [D.frzL, List.length_cons, List.length_cons, D.frzL_length ds]
/-- owned nodes are told by H -/
def HSame (B' H : Hp) (fp : List Addr) : Prop := ∀ a ∈ fp, B' a = H a
theorem HSame.nil {B' H : Hp} : HSame B' H [] := fun _ z => nomatch z
mutual
/-- the tree is frozen: its owned nodes are told by B' from now on -/
theorem Rep.frz (b : BLe B B') : ∀ {d : D} {v : V} {fp : List Addr}, HSame B' H fp → Rep K cl B H d v fp → Rep K cl B' H' d.frz v []
  | .non, _, _, _, h => by simp only [Rep, D.frz] at h ⊢; exact ⟨h.1, trivial⟩
  | .bl _, _, _, _, h => by simp only [Rep, D.frz] at h ⊢; exact ⟨h.1, trivial⟩
  | .int _, _, _, _, h => by simp only [Rep, D.frz] at h ⊢; exact ⟨h.1, trivial⟩
  | .str _, _, _, _, h => by simp only [Rep, D.frz] at h ⊢; exact ⟨h.1, trivial⟩
  | .tup ds, _, _, k, h => by
    simp only [Rep, D.frz] at h ⊢
    obtain ⟨a, vs, e, q, r⟩ := h
    exact ⟨a, vs, e, b.tup _ _ q, RepL.frz b k r⟩
  | .ktup ds, _, _, k, h => by
    simp only [Rep, D.frz] at h ⊢
    obtain ⟨a, vs, e, q, r, e2⟩ := h
    exact ⟨a, vs, e, b.sqT q, RepL.mono b (fun _ z => nomatch z) r, trivial⟩
  | .scr ns, _, _, _, h => by
    simp only [Rep, D.frz] at h ⊢
    obtain ⟨a, e, q, e2⟩ := h
    exact ⟨a, e, b.sqL q, trivial⟩
  | .lst false ds, _, _, k, h => by
    simp only [Rep, D.frz] at h ⊢
    obtain ⟨a, vs, e, q, r, e2⟩ := h
    exact ⟨a, vs, e, b.lst _ _ q, RepL.frz b HSame.nil r, trivial⟩
  | .lst true ds, _, _, k, h => by
    simp only [Rep, D.frz] at h ⊢
    obtain ⟨a, vs, fq, e, q, r, e2⟩ := h
    subst e2
    exact ⟨a, vs, e, (k a (by simp)).trans q, RepL.frz b (fun c z => k c (by simp [z])) r, trivial⟩
  | .dct false ks ds, _, _, k, h => by
    simp only [Rep, D.frz] at h ⊢
    obtain ⟨a, vs, e, q, l, r, e2⟩ := h
    exact ⟨a, vs, e, b.rd _ _ q, by rw [l, D.frzL_length], RepL.frz b HSame.nil r, trivial⟩
  | .dct true ks ds, _, _, k, h => by
    simp only [Rep, D.frz] at h ⊢
    obtain ⟨a, vs, fq, e, q, l, r, e2⟩ := h
    subst e2
    exact ⟨a, vs, e, .inl ((k a (by simp)).trans q), by rw [l, D.frzL_length], RepL.frz b (fun c z => k c (by simp [z])) r, trivial⟩
  | .dtt false ks ds, _, _, k, h => by
    simp only [Rep, D.frz] at h ⊢
    obtain ⟨a, vs, e, q, l, r, e2⟩ := h
    exact ⟨a, vs, e, b.rd _ _ q, by rw [l, D.frzL_length], RepL.frz b HSame.nil r, trivial⟩
  | .dtt true ks ds, _, _, k, h => by
    simp only [Rep, D.frz] at h ⊢
    obtain ⟨a, vs, fq, e, q, l, r, e2⟩ := h
    subst e2
    exact ⟨a, vs, e, .inl ((k a (by simp)).trans q), by rw [l, D.frzL_length], RepL.frz b (fun c z => k c (by simp [z])) r, trivial⟩
  | .obj false c fs ds, _, _, k, h => by
    simp only [Rep, D.frz] at h ⊢
    obtain ⟨a, dx, vs, e, q, l, r, e2⟩ := h
    exact ⟨a, dx, vs, e, b.ins _ _ _ _ q, by rw [l, D.frzL_length], RepL.frz b HSame.nil r, trivial⟩
  | .obj true c fs ds, _, _, k, h => by
    simp only [Rep, D.frz] at h ⊢
    obtain ⟨a, dx, vs, fq, e, q, l, r, e2⟩ := h
    subst e2
    exact ⟨a, dx, vs, e, (k a (by simp)).trans q, by rw [l, D.frzL_length], RepL.frz b (fun c z => k c (by simp [z])) r, trivial⟩
theorem RepL.frz (b : BLe B B') : ∀ {ds : List D} {vs : List V} {fp : List Addr}, HSame B' H fp → RepL K cl B H ds vs fp → RepL K cl B' H' (D.frzL ds) vs []
  | [], _, _, _, h => by simp only [RepL, D.frzL] at h ⊢; exact ⟨h.1, trivial⟩
  | d :: ds, _, _, k, h => by
    simp only [RepL, D.frzL] at h ⊢
    obtain ⟨v, vr, f1, f2, e, e2, r, rr⟩ := h
    subst e2
    exact ⟨v, vr, [], [], e, rfl, Rep.frz b (fun a z => k a (by simp [z])) r, RepL.frz b (fun a z => k a (by simp [z])) rr⟩
end
end
end VI
set_option Elab.async false
set_option linter.all false
set_option maxRecDepth 100000
set_option autoImplicit false
namespace VI
open PySem L2
/-! ### steps that change nothing that stood -/
/-- an object that can be owned -/
def ownable : HO → Bool
  | .lst _ => true
  | .dK _ => true
  | .dT _ => true
  | .ins _ _ _ => true
  | _ => false
/-- nothing stands there, or a tuple -/
def fot (H : Hp) (a : Addr) : Prop := H a = none ∨ ∃ vs, H a = some (.tup vs)
theorem fot_back {H H1 : Hp} (ex : ∀ a o, H a = some o → H1 a = some o) {a : Addr} (h : fot H1 a) : fot H a := by
  cases q : H a with
  | none => exact .inl q
  | some o =>
    have := ex a o q
    rcases h with h | ⟨vs, h⟩
    · rw [h] at this; cases this
    · rw [h] at this; cases this; exact .inr ⟨vs, q⟩
theorem fot_own {H : Hp} {a : Addr} {o : HO} (h : fot H a) (e : H a = some o) (w : ownable o = true) : False := by
  rcases h with h | ⟨vs, h⟩
  · rw [h] at e; cases e
  · rw [h] at e; cases e; cases w
structure New (B H B' H' : Hp) : Prop where
  ex : ∀ a o, H a = some o → H' a = some o
  le : BEx B B'
  sub : BLe B' H'
  nb : ∀ a, B' a ≠ none → B a ≠ none ∨ fot H a
theorem New.refl {B H : Hp} (h : BLe B H) : New B H B H := ⟨fun _ _ e => e, BEx.refl B, h, fun _ h => .inl h⟩
theorem New.trans {B H B1 H1 B2 H2 : Hp} (x : New B H B1 H1) (y : New B1 H1 B2 H2) : New B H B2 H2 where
  ex := fun a o e => y.ex a o (x.ex a o e)
  le := x.le.trans y.le
  sub := y.sub
  nb := fun a e => (y.nb a e).elim (x.nb a) fun h => .inr (fot_back x.ex h)
/-- a new object that B does not tell -/
theorem New.own {B H : Hp} {p : Addr} {o : HO} (h : BLe B H) (hp : H p = none) : New B H B (upd H p o) where
  ex := fun a u e => by rw [upd_ne (ne_of_none e hp)]; exact e
  le := BEx.refl B
  sub := h.trans (BLe.of_same fun a u e => by rw [upd_ne (ne_of_none e hp)]; exact e)
  nb := fun _ h => .inl h
theorem BLe.upd_none {B : Hp} {p : Addr} {o : HO} (h : B p = none) : BEx B (upd B p o) := fun a u e => by rw [upd_ne (ne_of_none e h)]; exact e
theorem BLe.none_of {B H : Hp} (h : BLe B H) {p : Addr} (hp : H p = none) : B p = none := by
  cases q : B p with
  | none => rfl
  | some u =>
    rcases h.rd p u (.inl q) with r | ⟨o, r⟩
    · rw [hp] at r; cases r
    · rw [hp] at r; cases r
/-- a new object that B tells -/
theorem New.told {B H : Hp} {p : Addr} {o : HO} (h : BLe B H) (hp : H p = none) : New B H (upd B p o) (upd H p o) where
  ex := fun a u e => by rw [upd_ne (ne_of_none e hp)]; exact e
  le := BLe.upd_none (h.none_of hp)
  sub := by
    have hb := h.none_of hp
    refine ⟨fun a u r => ?_, fun a C dx fs e => ?_, fun a vs e => ?_, fun a vs e => ?_⟩
    · by_cases ha : a = p
      · subst ha
        have e1 : upd B a o a = some o := upd_same
        have e2 : upd H a o a = some o := upd_same
        rcases r with r | ⟨w, r⟩
        · rw [e1] at r; exact .inl (e2.trans r)
        · rw [e1] at r; exact .inr ⟨w, e2.trans r⟩
      · have r' : Rd B a u := by
          rcases r with r | ⟨w, r⟩
          · rw [upd_ne ha] at r; exact .inl r
          · rw [upd_ne ha] at r; exact .inr ⟨w, r⟩
        rcases h.rd a u r' with q | ⟨w, q⟩
        · exact .inl (by rw [upd_ne ha]; exact q)
        · exact .inr ⟨w, by rw [upd_ne ha]; exact q⟩
    · by_cases ha : a = p
      · subst ha; rw [upd_same] at e ⊢; exact e
      · rw [upd_ne ha] at e ⊢; exact h.ins a C dx fs e
    · by_cases ha : a = p
      · subst ha; rw [upd_same] at e ⊢; exact e
      · rw [upd_ne ha] at e ⊢; exact h.lst a vs e
    · by_cases ha : a = p
      · subst ha; rw [upd_same] at e ⊢; exact e
      · rw [upd_ne ha] at e ⊢; exact h.tup a vs e
  nb := fun a e => by
    by_cases ha : a = p
    · exact .inr (.inl (ha ▸ hp))
    · rw [upd_ne ha] at e; exact .inl e
section
variable {K : PySem.W.Frag} {cl : Nat → Addr} {B H B' H' : Hp} {d : D} {ds : List D} {v : V} {vs : List V} {fp : List Addr}
mutual
/-- owned nodes stand in H -/
theorem Rep.stand : ∀ {d : D} {v : V} {fp : List Addr}, Rep K cl B H d v fp → ∀ a ∈ fp, ∃ o, H a = some o
  | .non, _, _, h => by simp only [Rep] at h; rw [h.2]; exact fun _ z => nomatch z
  | .bl _, _, _, h => by simp only [Rep] at h; rw [h.2]; exact fun _ z => nomatch z
  | .int _, _, _, h => by simp only [Rep] at h; rw [h.2]; exact fun _ z => nomatch z
  | .str _, _, _, h => by simp only [Rep] at h; rw [h.2]; exact fun _ z => nomatch z
  | .tup ds, _, _, h => by simp only [Rep] at h; obtain ⟨_, _, _, _, r⟩ := h; exact RepL.stand r
  | .scr _, _, _, h => by simp only [Rep] at h; obtain ⟨_, _, _, e⟩ := h; rw [e]; exact fun _ z => nomatch z
  | .ktup _, _, _, h => by simp only [Rep] at h; obtain ⟨_, _, _, _, _, e⟩ := h; rw [e]; exact fun _ z => nomatch z
  | .lst false ds, _, _, h => by simp only [Rep] at h; obtain ⟨_, _, _, _, _, e⟩ := h; rw [e]; exact fun _ z => nomatch z
  | .lst true ds, _, _, h => by
    simp only [Rep] at h; obtain ⟨_, _, _, _, q, r, e⟩ := h; subst e
    intro a z; rcases List.mem_cons.mp z with rfl | z
    · exact ⟨_, q⟩
    · exact RepL.stand r a z
  | .dct false ks ds, _, _, h => by simp only [Rep] at h; obtain ⟨_, _, _, _, _, _, e⟩ := h; rw [e]; exact fun _ z => nomatch z
  | .dct true ks ds, _, _, h => by
    simp only [Rep] at h; obtain ⟨_, _, _, _, q, _, r, e⟩ := h; subst e
    intro a z; rcases List.mem_cons.mp z with rfl | z
    · exact ⟨_, q⟩
    · exact RepL.stand r a z
  | .dtt false ks ds, _, _, h => by simp only [Rep] at h; obtain ⟨_, _, _, _, _, _, e⟩ := h; rw [e]; exact fun _ z => nomatch z
  | .dtt true ks ds, _, _, h => by
    simp only [Rep] at h; obtain ⟨_, _, _, _, q, _, r, e⟩ := h; subst e
    intro a z; rcases List.mem_cons.mp z with rfl | z
    · exact ⟨_, q⟩
    · exact RepL.stand r a z
  | .obj false c fs ds, _, _, h => by simp only [Rep] at h; obtain ⟨_, _, _, _, _, _, _, e⟩ := h; rw [e]; exact fun _ z => nomatch z
  | .obj true c fs ds, _, _, h => by
    simp only [Rep] at h; obtain ⟨_, _, _, _, _, q, _, r, e⟩ := h; subst e
    intro a z; rcases List.mem_cons.mp z with rfl | z
    · exact ⟨_, q⟩
    · exact RepL.stand r a z
theorem RepL.stand : ∀ {ds : List D} {vs : List V} {fp : List Addr}, RepL K cl B H ds vs fp → ∀ a ∈ fp, ∃ o, H a = some o
  | [], _, _, h => by simp only [RepL] at h; rw [h.2]; exact fun _ z => nomatch z
  | d :: ds, _, _, h => by
    simp only [RepL] at h
    obtain ⟨v, vr, f1, f2, _, e, r, rr⟩ := h
    subst e
    intro a z; rcases List.mem_append.mp z with z | z
    · exact Rep.stand r a z
    · exact RepL.stand rr a z
end
mutual
theorem Rep.stand' : ∀ {d : D} {v : V} {fp : List Addr}, Rep K cl B H d v fp → ∀ a ∈ fp, ∃ o, H a = some o ∧ ownable o = true
  | .non, _, _, h => by simp only [Rep] at h; rw [h.2]; exact fun _ z => nomatch z
  | .bl _, _, _, h => by simp only [Rep] at h; rw [h.2]; exact fun _ z => nomatch z
  | .int _, _, _, h => by simp only [Rep] at h; rw [h.2]; exact fun _ z => nomatch z
  | .str _, _, _, h => by simp only [Rep] at h; rw [h.2]; exact fun _ z => nomatch z
  | .tup ds, _, _, h => by simp only [Rep] at h; obtain ⟨_, _, _, _, r⟩ := h; exact RepL.stand' r
  | .scr _, _, _, h => by simp only [Rep] at h; obtain ⟨_, _, _, e⟩ := h; rw [e]; exact fun _ z => nomatch z
  | .ktup _, _, _, h => by simp only [Rep] at h; obtain ⟨_, _, _, _, _, e⟩ := h; rw [e]; exact fun _ z => nomatch z
  | .lst false ds, _, _, h => by simp only [Rep] at h; obtain ⟨_, _, _, _, _, e⟩ := h; rw [e]; exact fun _ z => nomatch z
  | .lst true ds, _, _, h => by
    simp only [Rep] at h; obtain ⟨_, _, _, _, q, r, e⟩ := h; subst e
    intro a z; rcases List.mem_cons.mp z with rfl | z
    · exact ⟨_, q, rfl⟩
    · exact RepL.stand' r a z
  | .dct false ks ds, _, _, h => by simp only [Rep] at h; obtain ⟨_, _, _, _, _, _, e⟩ := h; rw [e]; exact fun _ z => nomatch z
  | .dct true ks ds, _, _, h => by
    simp only [Rep] at h; obtain ⟨_, _, _, _, q, _, r, e⟩ := h; subst e
    intro a z; rcases List.mem_cons.mp z with rfl | z
    · exact ⟨_, q, rfl⟩
    · exact RepL.stand' r a z
  | .dtt false ks ds, _, _, h => by simp only [Rep] at h; obtain ⟨_, _, _, _, _, _, e⟩ := h; rw [e]; exact fun _ z => nomatch z
  | .dtt true ks ds, _, _, h => by
    simp only [Rep] at h; obtain ⟨_, _, _, _, q, _, r, e⟩ := h; subst e
    intro a z; rcases List.mem_cons.mp z with rfl | z
    · exact ⟨_, q, rfl⟩
    · exact RepL.stand' r a z
  | .obj false c fs ds, _, _, h => by simp only [Rep] at h; obtain ⟨_, _, _, _, _, _, _, e⟩ := h; rw [e]; exact fun _ z => nomatch z
  | .obj true c fs ds, _, _, h => by
    simp only [Rep] at h; obtain ⟨_, _, _, _, _, q, _, r, e⟩ := h; subst e
    intro a z; rcases List.mem_cons.mp z with rfl | z
    · exact ⟨_, q, rfl⟩
    · exact RepL.stand' r a z
theorem RepL.stand' : ∀ {ds : List D} {vs : List V} {fp : List Addr}, RepL K cl B H ds vs fp → ∀ a ∈ fp, ∃ o, H a = some o ∧ ownable o = true
  | [], _, _, h => by simp only [RepL] at h; rw [h.2]; exact fun _ z => nomatch z
  | d :: ds, _, _, h => by
    simp only [RepL] at h
    obtain ⟨v, vr, f1, f2, _, e, r, rr⟩ := h
    subst e
    intro a z; rcases List.mem_append.mp z with z | z
    · exact Rep.stand' r a z
    · exact RepL.stand' rr a z
end
theorem Rep.news (n : New B H B' H') (h : Rep K cl B H d v fp) : Rep K cl B' H' d v fp := h.mono n.le.le fun a z => by
  obtain ⟨o, e⟩ := h.stand a z
  rw [e]; exact n.ex a o e
theorem RepL.news (n : New B H B' H') (h : RepL K cl B H ds vs fp) : RepL K cl B' H' ds vs fp := h.mono n.le.le fun a z => by
  obtain ⟨o, e⟩ := h.stand a z
  rw [e]; exact n.ex a o e
/-! ### looks at a tree -/
theorem Rep.lst_view (s : BLe B H) {m : Bool} (h : Rep K cl B H (.lst m ds) v fp) : ∃ a vs fq, v = .ref a ∧ H a = some (.lst vs) ∧ RepL K cl B H ds vs fq ∧ ∀ a ∈ fq, a ∈ fp := by
  cases m with
  | false => simp only [Rep] at h; obtain ⟨a, vs, e, q, r, _⟩ := h; exact ⟨a, vs, [], e, s.lst _ _ q, r, (fun _ z => nomatch z)⟩
  | true => simp only [Rep] at h; obtain ⟨a, vs, fq, e, q, r, e2⟩ := h; exact ⟨a, vs, fq, e, q, r, fun a z => by simp [e2, z]⟩
theorem Rep.tup_view (s : BLe B H) (h : Rep K cl B H (.tup ds) v fp) : ∃ a vs, v = .ref a ∧ H a = some (.tup vs) ∧ RepL K cl B H ds vs fp := by
  simp only [Rep] at h; obtain ⟨a, vs, e, q, r⟩ := h; exact ⟨a, vs, e, s.tup _ _ q, r⟩
theorem Rep.ktup_view (s : BLe B H) (h : Rep K cl B H (.ktup ds) v fp) : ∃ a vs, v = .ref a ∧ SqT K H a vs ∧ RepL K cl B H ds vs [] := by
  simp only [Rep] at h; obtain ⟨a, vs, e, q, r, _⟩ := h; exact ⟨a, vs, e, s.sqT q, r⟩
theorem Rep.dct_view (s : BLe B H) {m : Bool} {ks : List Key} (h : Rep K cl B H (.dct m ks ds) v fp) : ∃ a vs fq, v = .ref a ∧ Rd H a (.dK (ks.zip vs)) ∧ ks.length = ds.length ∧ RepL K cl B H ds vs fq := by
  cases m with
  | false => simp only [Rep] at h; obtain ⟨a, vs, e, q, l, r, _⟩ := h; exact ⟨a, vs, [], e, s.rd _ _ q, l, r⟩
  | true => simp only [Rep] at h; obtain ⟨a, vs, fq, e, q, l, r, _⟩ := h; exact ⟨a, vs, fq, e, .inl q, l, r⟩
theorem Rep.dtt_view (s : BLe B H) {m : Bool} {ks : List (List Key)} (h : Rep K cl B H (.dtt m ks ds) v fp) : ∃ a vs fq, v = .ref a ∧ Rd H a (.dT (ks.zip vs)) ∧ ks.length = ds.length ∧ RepL K cl B H ds vs fq := by
  cases m with
  | false => simp only [Rep] at h; obtain ⟨a, vs, e, q, l, r, _⟩ := h; exact ⟨a, vs, [], e, s.rd _ _ q, l, r⟩
  | true => simp only [Rep] at h; obtain ⟨a, vs, fq, e, q, l, r, _⟩ := h; exact ⟨a, vs, fq, e, .inl q, l, r⟩
theorem Rep.obj_view (s : BLe B H) {m : Bool} {c : Nat} {fs : List Str} (h : Rep K cl B H (.obj m c fs ds) v fp) : ∃ a dx vs fq, v = .ref a ∧ H a = some (.ins (cl c) dx (fs.zip vs)) ∧ fs.length = ds.length ∧ RepL K cl B H ds vs fq := by
  cases m with
  | false => simp only [Rep] at h; obtain ⟨a, dx, vs, e, q, l, r, _⟩ := h; exact ⟨a, dx, vs, [], e, s.ins _ _ _ _ q, l, r⟩
  | true => simp only [Rep] at h; obtain ⟨a, dx, vs, fq, e, q, l, r, _⟩ := h; exact ⟨a, dx, vs, fq, e, q, l, r⟩
theorem RepL.get : ∀ {ds : List D} {vs : List V} {fp : List Addr}, RepL K cl B H ds vs fp → ∀ {i : Nat} {d : D}, ds[i]? = some d → ∃ v f, vs[i]? = some v ∧ Rep K cl B H d v f ∧ ∀ a ∈ f, a ∈ fp
  | [], _, _, _, _, _, e => by simp at e
  | d :: ds, _, _, h, i, d', e => by
    simp only [RepL] at h
    obtain ⟨v, vr, f1, f2, e1, e2, r, rr⟩ := h
    subst e1 e2
    cases i with
    | zero => simp at e; subst e; exact ⟨v, f1, rfl, r, fun a z => by simp [z]⟩
    | succ i =>
      obtain ⟨v', f, q1, q2, q3⟩ := RepL.get rr (i := i) (by simpa using e)
      exact ⟨v', f, by simpa using q1, q2, fun a z => by simp [q3 a z]⟩
/-- the pair of keys and values holds at k what the trees hold -/
theorem zip_val {κ : Type} [DecidableEq κ] : ∀ {ks : List κ} {ds : List D} {vs : List V} {fp : List Addr}, ks.length = ds.length → RepL K cl B H ds vs fp → ∀ (k : κ),
    (∀ d, ((ks.zip ds).find? fun p => decide (p.1 = k)).map (·.2) = some d → ∃ v f, valV (ks.zip vs) k = some v ∧ Rep K cl B H d v f ∧ ∀ a ∈ f, a ∈ fp) ∧
    (((ks.zip ds).find? fun p => decide (p.1 = k)) = none → valV (ks.zip vs) k = none)
  | [], [], _, _, _, h, k => by simp only [RepL] at h; rw [h.1]; exact ⟨fun d e => by simp at e, fun _ => rfl⟩
  | [], _ :: _, _, _, l, _, _ => by simp at l
  | _ :: _, [], _, _, l, _, _ => by simp at l
  | k' :: ks, d' :: ds, _, _, l, h, k => by
    simp only [RepL] at h
    obtain ⟨v, vr, f1, f2, e1, e2, r, rr⟩ := h
    subst e1 e2
    have ih := zip_val (ks := ks) (ds := ds) (by simpa using l) rr k
    rw [List.zip_cons_cons, List.zip_cons_cons]
    by_cases hk : k' = k
    · rw [valV_pos (p := (k', v)) hk, List.find?_cons_of_pos (by simpa using hk)]
      refine ⟨fun d e => ?_, fun e => by cases e⟩
      simp at e; subst e
      exact ⟨v, f1, rfl, r, fun a z => by simp [z]⟩
    · rw [valV_neg (p := (k', v)) hk, List.find?_cons_of_neg (by simpa using hk)]
      refine ⟨fun d e => ?_, ih.2⟩
      obtain ⟨w, f, q1, q2, q3⟩ := ih.1 d e
      exact ⟨w, f, q1, q2, fun a z => by simp [q3 a z]⟩
end
/-- what a table of keys and trees holds at k -/
def look {κ : Type} [DecidableEq κ] (ks : List κ) (ds : List D) (k : κ) : Option D := ((ks.zip ds).find? fun p => decide (p.1 = k)).map (·.2)
theorem look_none {κ : Type} [DecidableEq κ] {ks : List κ} {ds : List D} {k : κ} : look ks ds k = none ↔ ((ks.zip ds).find? fun p => decide (p.1 = k)) = none := by
  unfold look; simp
/-! ### judgements -/
abbrev Ev := List (Option D)
structure REnv (K : PySem.W.Frag) (cl : Nat → Addr) (B H : Hp) (σ : St) (A : Ev) : Prop where
  sub : BLe B H
  at_ : ∀ (i : Nat) (d : D), A[i]? = some (some d) → ∃ v fp, σ[i]? = some (some v) ∧ Rep K cl B H d v fp
theorem REnv.news {K : PySem.W.Frag} {cl : Nat → Addr} {B H B' H' : Hp} {σ : St} {A : Ev} (n : New B H B' H') (r : REnv K cl B H σ A) : REnv K cl B' H' σ A :=
  ⟨n.sub, fun i d e => let ⟨v, fp, e1, q⟩ := r.at_ i d e; ⟨v, fp, e1, q.news n⟩⟩
/-- the owned nodes are new -/
structure Fresh (H B' : Hp) (fp : List Addr) : Prop where
  nd : fp.Nodup
  nh : ∀ a ∈ fp, H a = none
  nb : ∀ a ∈ fp, B' a = none
theorem Fresh.nil {H B' : Hp} : Fresh H B' [] := ⟨List.nodup_nil, (fun _ z => nomatch z), (fun _ z => nomatch z)⟩
theorem none_back {H H1 : Hp} (ex : ∀ a o, H a = some o → H1 a = some o) {a : Addr} (h : H1 a = none) : H a = none := by
  cases q : H a with
  | none => rfl
  | some o => rw [ex a o q] at h; cases h
/-- a fresh tree stays fresh -/
theorem Fresh.news {H B1 H1 B2 H2 : Hp} {fp : List Addr} (f : Fresh H B1 fp) (n : New B1 H1 B2 H2) (st : ∀ a ∈ fp, ∃ o, H1 a = some o ∧ ownable o = true) : Fresh H B2 fp :=
  ⟨f.nd, f.nh, fun a z => by
    cases q : B2 a with
    | none => rfl
    | some u =>
      rcases n.nb a (by rw [q]; exact fun e => nomatch e) with r | r
      · exact absurd (f.nb a z) r
      · obtain ⟨o, e, w⟩ := st a z; exact (fot_own r e w).elim⟩
section
variable (X : Cx) (cl : Nat → Addr)
/-- an expression, looked at: m tells the tree -/
def EvV (e : Expr) (m : Ev → Option D) : Prop := ∃ t : TE, PE X e t ∧ ∀ σ A B H, REnv X.K cl B H σ A → ∀ d, m A = some d → ∀ Q : VK, (∀ v B' H' fp, New B H B' H' → Rep X.K cl B' H' d v fp → Q v H') → t σ H Q
/-- .. whose value may be kept: its owned nodes are new -/
def EvD (e : Expr) (m : Ev → Option D) : Prop := ∃ t : TE, PE X e t ∧ ∀ σ A B H, REnv X.K cl B H σ A → ∀ d, m A = some d → ∀ Q : VK, (∀ v B' H' fp, New B H B' H' → Rep X.K cl B' H' d v fp → Fresh H B' fp → Q v H') → t σ H Q
/-- a test -/
def EvT (e : Expr) (m : Ev → Option Bool) : Prop := ∃ t : TT, PT X e t ∧ ∀ σ A B H, REnv X.K cl B H σ A → ∀ b, m A = some b → ∀ Q : Bool → Hp → Prop, (∀ B' H', New B H B' H' → Q b H') → t σ H Q
def EvW (e : Expr) (m : Ev → Option Bool) : Prop := ∃ t : TT, PW X e t ∧ ∀ σ A B H, REnv X.K cl B H σ A → ∀ b, m A = some b → ∀ Q : Bool → Hp → Prop, (∀ B' H', New B H B' H' → Q b H') → t σ H Q
/-- arguments -/
def EvA (es : List Expr) (m : Ev → Option (List D)) : Prop := ∃ t : TA, PA X es t ∧ ∀ σ A B H, REnv X.K cl B H σ A → ∀ ds, m A = some ds → ∀ Q : List V → Hp → Prop, (∀ vs B' H' fp, New B H B' H' → RepL X.K cl B' H' ds vs fp → Q vs H') → t σ H Q
def EvAD (es : List Expr) (m : Ev → Option (List D)) : Prop := ∃ t : TA, PA X es t ∧ ∀ σ A B H, REnv X.K cl B H σ A → ∀ ds, m A = some ds → ∀ Q : List V → Hp → Prop, (∀ vs B' H' fp, New B H B' H' → RepL X.K cl B' H' ds vs fp → Fresh H B' fp → Q vs H') → t σ H Q
end
section
variable {X : Cx} {cl : Nat → Addr} {e a b c : Expr} {es : List Expr} {m ma mb mc : Ev → Option D} {pos : Pos}
theorem EvD.v (h : EvD X cl e m) : EvV X cl e m := by
  obtain ⟨t, p, r⟩ := h
  exact ⟨t, p, fun σ A B H R d e Q q => r σ A B H R d e Q fun v B' H' fp n rp _ => q v B' H' fp n rp⟩
def mP (m : Ev → Option D) : Ev → Option D := fun A => (m A).bind fun d => if d.plain = true then some d else none
/-- a shared value may be kept -/
theorem EvV.d (h : EvV X cl e m) : EvD X cl e (mP m) := by
  obtain ⟨t, p, r⟩ := h
  refine ⟨t, p, fun σ A B H R d e Q q => ?_⟩
  unfold mP at e
  cases hm : m A with
  | none => rw [hm] at e; cases e
  | some d' =>
    rw [hm] at e
    simp only [Option.bind_some] at e
    by_cases hp : d'.plain = true
    · rw [if_pos hp] at e; cases e
      refine r σ A B H R d hm Q fun v B' H' fp n rp => ?_
      have := Rep.plain hp rp
      subst this
      exact q v B' H' [] n rp Fresh.nil
    · rw [if_neg hp] at e; cases e
/-! names, constants -/
def mV (i : Nat) : Ev → Option D := fun A => A[i]?.join
theorem ev_var {i : Nat} (h : PE X e (tVar i)) : EvV X cl e (mV i) := by
  refine ⟨_, h, fun σ A B H R d hd Q q => ?_⟩
  obtain ⟨v, fp, e1, r⟩ := R.at_ i d (by
    unfold mV at hd
    cases q : A[i]? with
    | none => rw [q] at hd; cases hd
    | some o => rw [q] at hd; cases o with
      | none => cases hd
      | some d' => cases hd; rfl)
  exact ⟨v, e1, q v B H fp (New.refl R.sub) r⟩
def mC (d : D) : Ev → Option D := fun _ => some d
theorem ev_const {v : V} {d : D} (h : PE X e (tC v)) (hr : ∀ B H, BLe B H → Rep X.K cl B H d v []) : EvD X cl e (mC d) := by
  refine ⟨_, h, fun σ A B H R d' hd Q q => ?_⟩
  cases hd
  exact q v B H [] (New.refl R.sub) (hr B H R.sub) Fresh.nil
theorem ev_int {i j} : EvD X cl (.Constant (.int i) j pos) (mC (.int i)) := ev_const pe_int fun _ _ _ => by simp only [Rep]; exact ⟨trivial, trivial⟩
theorem ev_bl {b j} : EvD X cl (.Constant (.bool b) j pos) (mC (.bl b)) := ev_const pe_bl fun _ _ _ => by simp only [Rep]; exact ⟨trivial, trivial⟩
theorem ev_non {j} : EvD X cl (.Constant .none j pos) (mC .non) := ev_const pe_non fun _ _ _ => by simp only [Rep]; exact ⟨trivial, trivial⟩
theorem ev_str {x j} : EvD X cl (.Constant (.str x) j pos) (mC (.str x)) := ev_const pe_str fun _ _ _ => by simp only [Rep]; exact ⟨trivial, trivial⟩
/-! two values -/
def mOp {α : Type} (g : D → D → Option α) (ma mb : Ev → Option D) : Ev → Option α := fun A => (ma A).bind fun x => (mb A).bind fun y => g x y
theorem mOp_some {α : Type} {g : D → D → Option α} {A : Ev} {d : α} (h : mOp g ma mb A = some d) : ∃ x y, ma A = some x ∧ mb A = some y ∧ g x y = some d := by
  unfold mOp at h
  cases h1 : ma A with
  | none => rw [h1] at h; cases h
  | some x =>
    rw [h1] at h
    simp only [Option.bind_some] at h
    cases h2 : mb A with
    | none => rw [h2] at h; cases h
    | some y => rw [h2] at h; exact ⟨x, y, rfl, rfl, h⟩
/-- two looks in a row -/
theorem two {ta tb : TE} (ra : ∀ σ A B H, REnv X.K cl B H σ A → ∀ d, ma A = some d → ∀ Q : VK, (∀ v B' H' fp, New B H B' H' → Rep X.K cl B' H' d v fp → Q v H') → ta σ H Q)
    (rb : ∀ σ A B H, REnv X.K cl B H σ A → ∀ d, mb A = some d → ∀ Q : VK, (∀ v B' H' fp, New B H B' H' → Rep X.K cl B' H' d v fp → Q v H') → tb σ H Q)
    {σ : St} {A : Ev} {B H : Hp} (R : REnv X.K cl B H σ A) {x y : D} (hx : ma A = some x) (hy : mb A = some y) {P : V → V → Hp → Prop}
    (k : ∀ u v B' H' f1 f2, New B H B' H' → Rep X.K cl B' H' x u f1 → Rep X.K cl B' H' y v f2 → P u v H') : ta σ H fun u H1 => tb σ H1 fun v H2 => P u v H2 :=
  ra σ A B H R x hx _ fun u B1 H1 f1 n1 r1 => rb σ A B1 H1 (R.news n1) y hy _ fun v B2 H2 f2 n2 r2 => k u v B2 H2 f1 f2 (n1.trans n2) (r1.news n2) r2
/-- an operator by its D function -/
def OpD (X : Cx) (cl : Nat → Addr) (r : R2) (g : D → D → Option D) : Prop :=
  ∀ (B H : Hp) (x y d : D) (u v : V) (f1 f2 : List Addr), BLe B H → Rep X.K cl B H x u f1 → Rep X.K cl B H y v f2 → g x y = some d → ∀ Q : VK, (∀ w B' H' fp, New B H B' H' → Rep X.K cl B' H' d w fp → Fresh H B' fp → Q w H') → r u v H Q
theorem fresh_trans {B H B1 H1 B2 : Hp} {fp : List Addr} (n : New B H B1 H1) (f : Fresh H1 B2 fp) : Fresh H B2 fp := ⟨f.nd, fun a z => none_back n.ex (f.nh a z), f.nb⟩
theorem ev_op {op : Operator} {r : R2} {g : D → D → Option D} (ho : OpR X (binaryOp op) r) (hd : OpD X cl r g) (ha : EvV X cl a ma) (hb : EvV X cl b mb) : EvD X cl (.BinOp a op b pos) (mOp g ma mb) := by
  obtain ⟨ta, pa, ra⟩ := ha
  obtain ⟨tb, pb, rb⟩ := hb
  refine ⟨_, pe_op ho pa pb, fun σ A B H R d e Q q => ?_⟩
  obtain ⟨x, y, hx, hy, hg⟩ := mOp_some e
  exact two ra rb R hx hy fun u v B' H' f1 f2 n r1 r2 => hd B' H' x y d u v f1 f2 n.sub r1 r2 hg Q fun w B2 H2 fp n2 rw f => q w B2 H2 fp (n.trans n2) rw (fresh_trans n f)
theorem ev_cmp {op : CmpOp} {r : R2} {g : D → D → Option D} (ho : OpR X (compareOp op) r) (hd : OpD X cl r g) (ha : EvV X cl a ma) (hb : EvV X cl b mb) (hm : behindInMarks op b = false) : EvD X cl (.Compare a [op] [b] pos) (mOp g ma mb) := by
  obtain ⟨ta, pa, ra⟩ := ha
  obtain ⟨tb, pb, rb⟩ := hb
  refine ⟨_, pe_cmpR ho pa pb hm, fun σ A B H R d e Q q => ?_⟩
  obtain ⟨x, y, hx, hy, hg⟩ := mOp_some e
  exact two ra rb R hx hy fun u v B' H' f1 f2 n r1 r2 => hd B' H' x y d u v f1 f2 n.sub r1 r2 hg Q fun w B2 H2 fp n2 rw f => q w B2 H2 fp (n.trans n2) rw (fresh_trans n f)
def mT (m : Ev → Option D) : Ev → Option Bool := fun A => match m A with
  | some (.bl b) => some b
  | _ => none
theorem mT_some {A : Ev} {b : Bool} (h : mT m A = some b) : m A = some (.bl b) := by
  unfold mT at h
  split at h
  · rename_i b' e; cases h; exact e
  · cases h
theorem ev_test {op : CmpOp} {r : R2} {g : D → D → Option D} (ho : OpR X (compareOp op) r) (hd : OpD X cl r g) (ha : EvV X cl a ma) (hb : EvV X cl b mb) (hm : behindInMarks op b = false) : EvT X cl (.Compare a [op] [b] pos) (mT (mOp g ma mb)) := by
  obtain ⟨ta, pa, ra⟩ := ha
  obtain ⟨tb, pb, rb⟩ := hb
  refine ⟨_, pt_cmpR ho pa pb hm, fun σ A B H R k e Q q => ?_⟩
  obtain ⟨x, y, hx, hy, hg⟩ := mOp_some (mT_some e)
  exact two ra rb R hx hy fun u v B' H' f1 f2 n r1 r2 => hd B' H' x y _ u v f1 f2 n.sub r1 r2 hg _ fun w B2 H2 fp n2 rw f => by
    simp only [Rep] at rw
    exact ⟨k, rw.1, q B2 H2 (n.trans n2)⟩
/-- a value True or False as a test -/
theorem ev_tval (h : EvV X cl e m) (he : ∀ whole, isTrue e X.env whole = (do let v ← whole; standAt e.pos; holding [v] (truthy v))) : EvT X cl e (mT m) := by
  obtain ⟨t, p, r⟩ := h
  refine ⟨_, pt_val p he, fun σ A B H R k e Q q => ?_⟩
  refine r σ A B H R _ (mT_some e) _ fun v B' H' fp n rp => ?_
  simp only [Rep] at rp
  exact ⟨k, rp.1, q B' H' n⟩
/-- truth of any value -/
def truth : D → Option Bool
  | .non => some false
  | .bl b => some b
  | .int i => some (i != 0)
  | .str s => if s.length ≤ sizeLine then some ((s.length : Int) != 0) else none
  | .lst _ xs => some (!xs.isEmpty)
  | .tup xs => some (!xs.isEmpty)
  | _ => none
def mTr (m : Ev → Option D) : Ev → Option Bool := fun A => (m A).bind truth
theorem RepL.isEmpty {K : PySem.W.Frag} {B H : Hp} {ds : List D} {vs : List V} {fp : List Addr} (h : RepL K cl B H ds vs fp) : vs.isEmpty = ds.isEmpty := by
  have := h.length
  cases ds <;> cases vs <;> simp_all
theorem ev_truth (h : EvV X cl e m) (he : ∀ whole, isTrue e X.env whole = (do let v ← whole; standAt e.pos; holding [v] (truthy v))) : EvT X cl e (mTr m) := by
  obtain ⟨t, p, r⟩ := h
  refine ⟨_, pt_truth p he, fun σ A B H R k e Q q => ?_⟩
  unfold mTr at e
  cases hm : m A with
  | none => rw [hm] at e; cases e
  | some d =>
    rw [hm] at e
    simp only [Option.bind_some] at e
    refine r σ A B H R _ hm _ fun v B' H' fp n rp => ⟨k, ?_, q B' H' n⟩
    cases d with
    | non => simp only [Rep] at rp; rw [rp.1]; cases e; exact rfl
    | bl b => simp only [Rep] at rp; rw [rp.1]; cases e; exact rfl
    | int b => simp only [Rep] at rp; rw [rp.1]; cases e; exact rfl
    | str b =>
      simp only [Rep] at rp; rw [rp.1]
      simp only [truth] at e
      by_cases hl : b.length ≤ sizeLine
      · rw [if_pos hl] at e; cases e; exact ⟨hl, rfl⟩
      · rw [if_neg hl] at e; cases e
    | lst mm xs =>
      obtain ⟨a, vs, fq, e1, q1, q2, _⟩ := rp.lst_view n.sub
      subst e1; cases e
      exact .inl ⟨vs, .of q1, by rw [q2.isEmpty]⟩
    | tup xs =>
      obtain ⟨a, vs, e1, q1, q2⟩ := rp.tup_view n.sub
      subst e1; cases e
      exact .inr (.inl ⟨vs, .of q1, by rw [q2.isEmpty]⟩)
    | _ => cases e
/-! and, or, not, if -/
def mAnd (ta tb : Ev → Option Bool) : Ev → Option Bool := fun A => (ta A).bind fun x => if x = true then tb A else some false
def mOr (ta tb : Ev → Option Bool) : Ev → Option Bool := fun A => (ta A).bind fun x => if x = true then some true else tb A
def mNot (ta : Ev → Option Bool) : Ev → Option Bool := fun A => (ta A).map fun x => !x
variable {na nb : Ev → Option Bool} {rest : List Expr}
theorem EvW.t (h : EvW X cl e na) : EvT X cl e na := by
  obtain ⟨t, p, r⟩ := h
  exact ⟨t, p.pt, r⟩
theorem ew_and1 (ha : EvT X cl a na) : EvW X cl (.BoolOp .And [a] pos) na := by
  obtain ⟨t, p, r⟩ := ha
  exact ⟨t, pw_and1 p, r⟩
theorem ew_or1 (ha : EvT X cl a na) : EvW X cl (.BoolOp .Or [a] pos) na := by
  obtain ⟨t, p, r⟩ := ha
  exact ⟨t, pw_or1 p, r⟩
theorem ew_and (ha : EvT X cl a na) (hb : EvW X cl (.BoolOp .And (b :: rest) pos) nb) : EvW X cl (.BoolOp .And (a :: b :: rest) pos) (mAnd na nb) := by
  obtain ⟨t, p, r⟩ := ha
  obtain ⟨t2, p2, r2⟩ := hb
  refine ⟨_, pw_and p p2, fun σ A B H R k e Q q => ?_⟩
  unfold mAnd at e
  cases h1 : na A with
  | none => rw [h1] at e; cases e
  | some x =>
    rw [h1] at e
    simp only [Option.bind_some] at e
    refine r σ A B H R x h1 _ fun B1 H1 n1 => ?_
    cases x with
    | true => rw [if_pos rfl] at e ⊢; exact r2 σ A B1 H1 (R.news n1) k e Q fun B2 H2 n2 => q B2 H2 (n1.trans n2)
    | false => rw [if_neg Bool.false_ne_true] at e ⊢; cases e; exact q B1 H1 n1
theorem ew_or (ha : EvT X cl a na) (hb : EvW X cl (.BoolOp .Or (b :: rest) pos) nb) : EvW X cl (.BoolOp .Or (a :: b :: rest) pos) (mOr na nb) := by
  obtain ⟨t, p, r⟩ := ha
  obtain ⟨t2, p2, r2⟩ := hb
  refine ⟨_, pw_or p p2, fun σ A B H R k e Q q => ?_⟩
  unfold mOr at e
  cases h1 : na A with
  | none => rw [h1] at e; cases e
  | some x =>
    rw [h1] at e
    simp only [Option.bind_some] at e
    refine r σ A B H R x h1 _ fun B1 H1 n1 => ?_
    cases x with
    | true => rw [if_pos rfl] at e ⊢; cases e; exact q B1 H1 n1
    | false => rw [if_neg Bool.false_ne_true] at e ⊢; exact r2 σ A B1 H1 (R.news n1) k e Q fun B2 H2 n2 => q B2 H2 (n1.trans n2)
theorem et_not (ha : EvT X cl a na) : EvT X cl (.UnaryOp .Not a pos) (mNot na) := by
  obtain ⟨t, p, r⟩ := ha
  refine ⟨_, pt_not p, fun σ A B H R k e Q q => ?_⟩
  unfold mNot at e
  cases h1 : na A with
  | none => rw [h1] at e; cases e
  | some x =>
    rw [h1] at e; cases e
    exact r σ A B H R x h1 _ fun B1 H1 n1 => q B1 H1 n1
def mBl (m : Ev → Option Bool) : Ev → Option D := fun A => (m A).map .bl
/-- .. as values -/
theorem ev_one {op} (h : EvD X cl a m) : EvD X cl (.BoolOp op [a] pos) m := by
  obtain ⟨t, p, r⟩ := h
  exact ⟨t, pe_one p, r⟩
def mAndV (ta tb : Ev → Option D) : Ev → Option D := fun A => (mT ta A).bind fun x => if x = true then tb A else some (.bl false)
def mOrV (ta tb : Ev → Option D) : Ev → Option D := fun A => (mT ta A).bind fun x => if x = true then some (.bl true) else tb A
theorem ev_and (ha : EvV X cl a ma) (hb : EvD X cl (.BoolOp .And (b :: rest) pos) mb) : EvD X cl (.BoolOp .And (a :: b :: rest) pos) (mAndV ma mb) := by
  obtain ⟨t, p, r⟩ := ha
  obtain ⟨t2, p2, r2⟩ := hb
  refine ⟨_, pe_and p p2, fun σ A B H R k e Q q => ?_⟩
  unfold mAndV at e
  cases h1 : mT ma A with
  | none => rw [h1] at e; cases e
  | some x =>
    rw [h1] at e
    simp only [Option.bind_some] at e
    refine r σ A B H R _ (mT_some h1) _ fun v B1 H1 fp n1 rp => ?_
    simp only [Rep] at rp
    refine ⟨x, rp.1, ?_⟩
    cases x with
    | true => rw [if_pos rfl] at e ⊢; exact r2 σ A B1 H1 (R.news n1) k e Q fun v B2 H2 fp n2 rp f => q v B2 H2 fp (n1.trans n2) rp (fresh_trans n1 f)
    | false => rw [if_neg Bool.false_ne_true] at e ⊢; cases e; exact q _ B1 H1 [] n1 (by simp only [Rep]; exact ⟨trivial, trivial⟩) Fresh.nil
theorem ev_or (ha : EvV X cl a ma) (hb : EvD X cl (.BoolOp .Or (b :: rest) pos) mb) : EvD X cl (.BoolOp .Or (a :: b :: rest) pos) (mOrV ma mb) := by
  obtain ⟨t, p, r⟩ := ha
  obtain ⟨t2, p2, r2⟩ := hb
  refine ⟨_, pe_or p p2, fun σ A B H R k e Q q => ?_⟩
  unfold mOrV at e
  cases h1 : mT ma A with
  | none => rw [h1] at e; cases e
  | some x =>
    rw [h1] at e
    simp only [Option.bind_some] at e
    refine r σ A B H R _ (mT_some h1) _ fun v B1 H1 fp n1 rp => ?_
    simp only [Rep] at rp
    refine ⟨x, rp.1, ?_⟩
    cases x with
    | true => rw [if_pos rfl] at e ⊢; cases e; exact q _ B1 H1 [] n1 (by simp only [Rep]; exact ⟨trivial, trivial⟩) Fresh.nil
    | false => rw [if_neg Bool.false_ne_true] at e ⊢; exact r2 σ A B1 H1 (R.news n1) k e Q fun v B2 H2 fp n2 rp f => q v B2 H2 fp (n1.trans n2) rp (fresh_trans n1 f)
def mNotV (ta : Ev → Option D) : Ev → Option D := fun A => (mT ta A).map fun x => .bl (!x)
theorem ev_not (ha : EvV X cl a ma) : EvD X cl (.UnaryOp .Not a pos) (mNotV ma) := by
  obtain ⟨t, p, r⟩ := ha
  refine ⟨_, pe_not p, fun σ A B H R k e Q q => ?_⟩
  unfold mNotV at e
  cases h1 : mT ma A with
  | none => rw [h1] at e; cases e
  | some x =>
    rw [h1] at e; cases e
    refine r σ A B H R _ (mT_some h1) _ fun v B1 H1 fp n1 rp => ?_
    simp only [Rep] at rp
    exact ⟨x, rp.1, q _ B1 H1 [] n1 (by simp only [Rep]; exact ⟨trivial, trivial⟩) Fresh.nil⟩
def mIf (t : Ev → Option Bool) (ma mb : Ev → Option D) : Ev → Option D := fun A => (t A).bind fun x => if x = true then ma A else mb A
theorem ev_ifD (hc : EvT X cl c na) (ha : EvD X cl a ma) (hb : EvD X cl b mb) : EvD X cl (.IfExp c a b pos) (mIf na ma mb) := by
  obtain ⟨t, p, r⟩ := hc
  obtain ⟨t1, p1, r1⟩ := ha
  obtain ⟨t2, p2, r2⟩ := hb
  refine ⟨_, pe_ifExp p p1 p2, fun σ A B H R k e Q q => ?_⟩
  unfold mIf at e
  cases h1 : na A with
  | none => rw [h1] at e; cases e
  | some x =>
    rw [h1] at e
    simp only [Option.bind_some] at e
    refine r σ A B H R x h1 _ fun B1 H1 n1 => ?_
    cases x with
    | true => rw [if_pos rfl] at e ⊢; exact r1 σ A B1 H1 (R.news n1) k e Q fun v B2 H2 fp n2 rp f => q v B2 H2 fp (n1.trans n2) rp (fresh_trans n1 f)
    | false => rw [if_neg Bool.false_ne_true] at e ⊢; exact r2 σ A B1 H1 (R.news n1) k e Q fun v B2 H2 fp n2 rp f => q v B2 H2 fp (n1.trans n2) rp (fresh_trans n1 f)
theorem ev_ifV (hc : EvT X cl c na) (ha : EvV X cl a ma) (hb : EvV X cl b mb) : EvV X cl (.IfExp c a b pos) (mIf na ma mb) := by
  obtain ⟨t, p, r⟩ := hc
  obtain ⟨t1, p1, r1⟩ := ha
  obtain ⟨t2, p2, r2⟩ := hb
  refine ⟨_, pe_ifExp p p1 p2, fun σ A B H R k e Q q => ?_⟩
  unfold mIf at e
  cases h1 : na A with
  | none => rw [h1] at e; cases e
  | some x =>
    rw [h1] at e
    simp only [Option.bind_some] at e
    refine r σ A B H R x h1 _ fun B1 H1 n1 => ?_
    cases x with
    | true => rw [if_pos rfl] at e ⊢; exact r1 σ A B1 H1 (R.news n1) k e Q fun v B2 H2 fp n2 rp => q v B2 H2 fp (n1.trans n2) rp
    | false => rw [if_neg Bool.false_ne_true] at e ⊢; exact r2 σ A B1 H1 (R.news n1) k e Q fun v B2 H2 fp n2 rp => q v B2 H2 fp (n1.trans n2) rp
end
end VI
set_option Elab.async false
set_option linter.all false
set_option maxRecDepth 100000
set_option autoImplicit false
namespace VI
open PySem L2
section
variable {X : Cx} {cl : Nat → Addr} {e a b c : Expr} {m ma mb mc : Ev → Option D} {pos : Pos} {B H : Hp} {K : PySem.W.Frag}
theorem RepL.append {xs ys : List D} {us vs : List V} {f g : List Addr} (h : RepL K cl B H xs us f) (h2 : RepL K cl B H ys vs g) : RepL K cl B H (xs ++ ys) (us ++ vs) (f ++ g) := by
  induction xs generalizing us f with
  | nil => simp only [RepL] at h; rw [h.1, h.2]; exact h2
  | cons x xs ih =>
    simp only [RepL] at h
    obtain ⟨v, vr, f1, f2, e1, e2, r, rr⟩ := h
    subst e1 e2
    rw [List.cons_append, List.cons_append, List.append_assoc]
    simp only [RepL]
    exact ⟨v, vr ++ vs, f1, f2 ++ g, rfl, rfl, r, ih rr⟩
theorem RepL.pl {xs : List D} {us : List V} {f : List Addr} (h : RepL K cl B H xs us f) (p : D.plainL xs = true) : RepL K cl B H xs us [] := by
  have := RepL.plain p h
  rw [this] at h; exact h
/-- a new list of shared items -/
theorem rep_newList {B' : Hp} {p : Addr} {xs : List D} {us : List V} (n : New B H B (upd H p (.lst us))) (r : RepL K cl B H xs us []) : Rep K cl B (upd H p (.lst us)) (.lst true xs) (.ref p) [p] := by
  simp only [Rep]
  exact ⟨p, us, [], rfl, upd_same, r.news n, rfl⟩
theorem fresh_one {p : Addr} (s : BLe B H) (hp : H p = none) : Fresh H B [p] := ⟨by simp, (fun a z => by simp at z; subst z; exact hp), (fun a z => by simp at z; subst z; exact s.none_of hp)⟩
theorem rep_int {i : Int} : Rep K cl B H (.int i) (.int i) [] := by simp only [Rep]; exact ⟨trivial, trivial⟩
theorem rep_bl {i : Bool} : Rep K cl B H (.bl i) (.bl i) [] := by simp only [Rep]; exact ⟨trivial, trivial⟩
theorem rep_str {i : Str} : Rep K cl B H (.str i) (.str i) [] := by simp only [Rep]; exact ⟨trivial, trivial⟩
theorem rep_non : Rep K cl B H .non .non [] := by simp only [Rep]; exact ⟨trivial, trivial⟩
theorem rep_int_iff {i : Int} {v : V} {fp : List Addr} : Rep K cl B H (.int i) v fp ↔ v = .int i ∧ fp = [] := by simp only [Rep]
theorem rep_bl_iff {i : Bool} {v : V} {fp : List Addr} : Rep K cl B H (.bl i) v fp ↔ v = .bl i ∧ fp = [] := by simp only [Rep]
theorem rep_str_iff {i : Str} {v : V} {fp : List Addr} : Rep K cl B H (.str i) v fp ↔ v = .str i ∧ fp = [] := by simp only [Rep]
theorem rep_non_iff {v : V} {fp : List Addr} : Rep K cl B H .non v fp ↔ v = .non ∧ fp = [] := by simp only [Rep]
/-! ### arithmetic -/
def addD : D → D → Option D
  | .int i, .int j => some (.int (i + j))
  | .str s, .str t => if s.length + t.length ≤ sizeLine then some (.str (s ++ t)) else none
  | .lst _ xs, .lst _ ys => if D.plainL xs = true ∧ D.plainL ys = true ∧ xs.length + ys.length ≤ sizeLine then some (.lst true (xs ++ ys)) else none
  | _, _ => none
abbrev rAddA : R2 := fun x y H Q => (rI0 fun i j => .int (i + j)) x y H Q ∨ (fun x y H Q => (∃ i j, x = .str i ∧ y = .str j ∧ i.length + j.length ≤ sizeLine ∧ Q (.str (i ++ j)) H)) x y H Q ∨ rCat x y H Q
theorem op_addA : OpR X (binaryOp .Add) rAddA := op_add.or (op_add_str.or op_cat)
theorem addD_ok : OpD X cl rAddA addD := by
  intro B H x y d u v f1 f2 s r1 r2 hg Q q
  cases x <;> cases y <;> simp only [addD] at hg <;> try (cases hg; done)
  case int.int i j =>
    cases hg
    rw [rep_int_iff] at r1 r2
    exact .inl ⟨i, j, r1.1, r2.1, q _ B H [] (New.refl s) rep_int Fresh.nil⟩
  case str.str i j =>
    by_cases hl : i.length + j.length ≤ sizeLine
    · rw [if_pos hl] at hg
      cases hg
      rw [rep_str_iff] at r1 r2
      exact .inr (.inl ⟨i, j, r1.1, r2.1, hl, q _ B H [] (New.refl s) rep_str Fresh.nil⟩)
    · rw [if_neg hl] at hg; cases hg
  case lst.lst m xs n ys =>
    by_cases hl : D.plainL xs = true ∧ D.plainL ys = true ∧ xs.length + ys.length ≤ sizeLine
    · rw [if_pos hl] at hg
      cases hg
      obtain ⟨p1, p2, hz⟩ := hl
      obtain ⟨a, us, fq, e1, h1, q1, _⟩ := r1.lst_view s
      obtain ⟨b, ws, fr, e2, h2, q2, _⟩ := r2.lst_view s
      refine .inr (.inr ⟨a, b, us, ws, e1, e2, h1, h2, by rw [← q1.length, ← q2.length]; exact hz, fun p hp => ?_⟩)
      have n := New.own (o := .lst (us ++ ws)) s hp
      exact q _ B _ [p] n (rep_newList (B' := B) n ((q1.pl p1).append (q2.pl p2))) (fresh_one s hp)
    · rw [if_neg hl] at hg; cases hg
def subD : D → D → Option D
  | .int i, .int j => some (.int (i - j))
  | _, _ => none
theorem subD_ok : OpD X cl (rI0 fun i j => .int (i - j)) subD := by
  intro B H x y d u v f1 f2 s r1 r2 hg Q q
  cases x <;> cases y <;> simp only [subD] at hg <;> try (cases hg; done)
  cases hg
  rw [rep_int_iff] at r1 r2
  exact ⟨_, _, r1.1, r2.1, q _ B H [] (New.refl s) rep_int Fresh.nil⟩
def small64 (i : Int) : Bool := decide (i.natAbs < 18446744073709551616)
def mulD : D → D → Option D
  | .int i, .int j => if small64 i || small64 j then some (.int (i * j)) else none
  | .str s, .int n => if s.length ≤ 1000 ∧ 0 ≤ n ∧ n.natAbs ≤ 1000 then some (.str (Txt.mul s n)) else none
  | .lst _ xs, .int n => if D.plainL xs = true ∧ xs.length ≤ 1000 ∧ 0 ≤ n ∧ n.natAbs ≤ 1000 then some (.lst true (List.replicate n.toNat xs).flatten) else none
  | _, _ => none
theorem reps_ok {xs : List D} {us : List V} (h : RepL K cl B H xs us []) : ∀ n : Nat, RepL K cl B H (List.replicate n xs).flatten (List.replicate n us).flatten []
  | 0 => by simp only [List.replicate, List.flatten_nil, RepL]; exact ⟨trivial, trivial⟩
  | n + 1 => by
    rw [List.replicate_succ, List.replicate_succ, List.flatten_cons, List.flatten_cons]
    exact h.append (reps_ok h n)
abbrev rMulS : R2 := fun x y H Q => ∃ z n, x = .str z ∧ y = .int n ∧ z.length ≤ 1000 ∧ 0 ≤ n ∧ n ≤ 1000 ∧ Q (.str (Txt.mul z n)) H
theorem mulOk_small {z : Str} {n : Int} (hz : z.length ≤ 1000) (h0 : 0 ≤ n) (h1 : n ≤ 1000) : MulOk z n := by
  refine ⟨by simp; omega, fun h _ => ?_, fun h _ => ?_⟩
  · have : (1000 : Int) ≤ (2 ^ 63 - 1) / n := Int.le_ediv_of_mul_le (by omega) (by omega)
    omega
  · unfold Builtin.Str.tooLong
    have h2 : z.length * n.toNat ≤ 1000 * 1000 := Nat.mul_le_mul hz (by omega)
    have hs : sizeLine = 16777216 := sizeLine_eq
    simp; omega
theorem op_mulS : OpR X (binaryOp .Mult) rMulS := by
  intro pins s σ H x y v u Q I rx ry h
  obtain ⟨z, n, rfl, rfl, h1, h2, h3, q⟩ := h
  obtain ⟨t, rfl⟩ := rx
  obtain ⟨t', rfl⟩ := ry
  exact SB.mul (mulOk_small h1 h2 h3) fun t2 k => ⟨.str _, H, I.tok _, ⟨_, rfl⟩, q⟩
abbrev rMulA : R2 := fun x y H Q => (rI CMul fun i j => .int (i * j)) x y H Q ∨ rMulS x y H Q ∨ rRep x y H Q
theorem op_mulA : OpR X (binaryOp .Mult) rMulA := op_mul.or (op_mulS.or op_rep)
theorem mulD_ok : OpD X cl rMulA mulD := by
  intro B H x y d u v f1 f2 s r1 r2 hg Q q
  cases x <;> cases y <;> simp only [mulD] at hg <;> try (cases hg; done)
  case int.int i j =>
    by_cases hl : (small64 i || small64 j) = true
    · rw [if_pos hl] at hg
      cases hg
      rw [rep_int_iff] at r1 r2
      refine .inl ⟨i, j, r1.1, r2.1, ?_, q _ B H [] (New.refl s) rep_int Fresh.nil⟩
      unfold CMul
      simp only [small64, Bool.or_eq_true, decide_eq_true_eq] at hl
      exact hl.imp (fun h => ⟨by omega, by omega⟩) fun h => ⟨by omega, by omega⟩
    · rw [if_neg hl] at hg; cases hg
  case str.int z n =>
    by_cases hl : z.length ≤ 1000 ∧ 0 ≤ n ∧ n.natAbs ≤ 1000
    · rw [if_pos hl] at hg
      cases hg
      rw [rep_int_iff] at r2
      rw [rep_str_iff] at r1
      exact .inr (.inl ⟨z, n, r1.1, r2.1, hl.1, hl.2.1, by omega, q _ B H [] (New.refl s) rep_str Fresh.nil⟩)
    · rw [if_neg hl] at hg; cases hg
  case lst.int m xs n =>
    by_cases hl : D.plainL xs = true ∧ xs.length ≤ 1000 ∧ 0 ≤ n ∧ n.natAbs ≤ 1000
    · rw [if_pos hl] at hg
      cases hg
      obtain ⟨p1, hz, h0, h1⟩ := hl
      rw [rep_int_iff] at r2
      obtain ⟨a, us, fq, e1, hh, q1, _⟩ := r1.lst_view s
      have hs : sizeLine = 16777216 := sizeLine_eq
      have hm : us.length * n.toNat ≤ 1000 * 1000 := Nat.mul_le_mul (by rw [← q1.length]; exact hz) (by omega)
      refine .inr (.inr ⟨a, n, us, e1, r2.1, hh, by omega, by omega, by omega, fun p hp => ?_⟩)
      have nn := New.own (o := .lst (List.replicate n.toNat us).flatten) s hp
      exact q _ B _ [p] nn (rep_newList (B' := B) nn (reps_ok (q1.pl p1) _)) (fresh_one s hp)
    · rw [if_neg hl] at hg; cases hg
def fdivD : D → D → Option D
  | .int i, .int j => if 0 < j ∧ j.natAbs < 1073741824 then some (.int (i / j)) else none
  | _, _ => none
theorem fdivD_ok : OpD X cl (rI CDiv fun i j => .int (i / j)) fdivD := by
  intro B H x y d u v f1 f2 s r1 r2 hg Q q
  cases x <;> cases y <;> simp only [fdivD] at hg <;> try (cases hg; done)
  case int.int i j =>
    by_cases hl : 0 < j ∧ j.natAbs < 1073741824
    · rw [if_pos hl] at hg
      cases hg
      rw [rep_int_iff] at r1 r2
      exact ⟨_, _, r1.1, r2.1, ⟨hl.1, by omega⟩, q _ B H [] (New.refl s) rep_int Fresh.nil⟩
    · rw [if_neg hl] at hg; cases hg
def modD : D → D → Option D
  | .int i, .int j => if 0 < j then some (.int (i % j)) else none
  | _, _ => none
theorem modD_ok : OpD X cl (rI (fun _ j => 0 < j) fun i j => .int (i % j)) modD := by
  intro B H x y d u v f1 f2 s r1 r2 hg Q q
  cases x <;> cases y <;> simp only [modD] at hg <;> try (cases hg; done)
  case int.int i j =>
    by_cases hl : 0 < j
    · rw [if_pos hl] at hg
      cases hg
      rw [rep_int_iff] at r1 r2
      exact ⟨_, _, r1.1, r2.1, hl, q _ B H [] (New.refl s) rep_int Fresh.nil⟩
    · rw [if_neg hl] at hg; cases hg
def powD : D → D → Option D
  | .int i, .int j => if 0 ≤ j ∧ j.natAbs ≤ 1000 ∧ i.natAbs < 1000 then some (.int (i ^ j.toNat)) else none
  | _, _ => none
theorem powD_ok : OpD X cl (rI CPow fun i j => .int (i ^ j.toNat)) powD := by
  intro B H x y d u v f1 f2 s r1 r2 hg Q q
  cases x <;> cases y <;> simp only [powD] at hg <;> try (cases hg; done)
  case int.int i j =>
    by_cases hl : 0 ≤ j ∧ j.natAbs ≤ 1000 ∧ i.natAbs < 1000
    · rw [if_pos hl] at hg
      cases hg
      rw [rep_int_iff] at r1 r2
      exact ⟨_, _, r1.1, r2.1, ⟨hl.1, by omega, by omega⟩, q _ B H [] (New.refl s) rep_int Fresh.nil⟩
    · rw [if_neg hl] at hg; cases hg
/-! ### comparisons of ints -/
def ltD : D → D → Option D
  | .int i, .int j => some (.bl (decide (i < j)))
  | _, _ => none
def leD : D → D → Option D
  | .int i, .int j => some (.bl (decide (i ≤ j)))
  | _, _ => none
def gtD : D → D → Option D
  | .int i, .int j => some (.bl (decide (j < i)))
  | _, _ => none
def geD : D → D → Option D
  | .int i, .int j => some (.bl (decide (j ≤ i)))
  | _, _ => none
theorem ltD_ok : OpD X cl (rI0 fun i j => .bl (decide (i < j))) ltD := by
  intro B H x y d u v f1 f2 s r1 r2 hg Q q
  cases x <;> cases y <;> simp only [ltD] at hg <;> try (cases hg; done)
  cases hg
  rw [rep_int_iff] at r1 r2
  exact ⟨_, _, r1.1, r2.1, q _ B H [] (New.refl s) rep_bl Fresh.nil⟩
theorem leD_ok : OpD X cl (rI0 fun i j => .bl (decide (i ≤ j))) leD := by
  intro B H x y d u v f1 f2 s r1 r2 hg Q q
  cases x <;> cases y <;> simp only [leD] at hg <;> try (cases hg; done)
  cases hg
  rw [rep_int_iff] at r1 r2
  exact ⟨_, _, r1.1, r2.1, q _ B H [] (New.refl s) rep_bl Fresh.nil⟩
theorem gtD_ok : OpD X cl (rI0 fun i j => .bl (decide (j < i))) gtD := by
  intro B H x y d u v f1 f2 s r1 r2 hg Q q
  cases x <;> cases y <;> simp only [gtD] at hg <;> try (cases hg; done)
  cases hg
  rw [rep_int_iff] at r1 r2
  exact ⟨_, _, r1.1, r2.1, q _ B H [] (New.refl s) rep_bl Fresh.nil⟩
theorem geD_ok : OpD X cl (rI0 fun i j => .bl (decide (j ≤ i))) geD := by
  intro B H x y d u v f1 f2 s r1 r2 hg Q q
  cases x <;> cases y <;> simp only [geD] at hg <;> try (cases hg; done)
  cases hg
  rw [rep_int_iff] at r1 r2
  exact ⟨_, _, r1.1, r2.1, q _ B H [] (New.refl s) rep_bl Fresh.nil⟩
/-! ### is None -/
def isND : D → D → Option D
  | .non, .non => some (.bl true)
  | _, .non => some (.bl false)
  | _, _ => none
def notND : D → D → Option D
  | .non, .non => some (.bl false)
  | _, .non => some (.bl true)
  | _, _ => none
theorem non_iff : ∀ {d : D} {v : V} {fp : List Addr}, Rep K cl B H d v fp → (decide (v = .non) = match d with | .non => true | _ => false)
  | .non, _, _, r => by simp only [Rep] at r; rw [r.1]; rfl
  | .bl _, _, _, r => by simp only [Rep] at r; rw [r.1]; rfl
  | .int _, _, _, r => by simp only [Rep] at r; rw [r.1]; rfl
  | .str _, _, _, r => by simp only [Rep] at r; rw [r.1]; rfl
  | .tup _, _, _, r => by simp only [Rep] at r; obtain ⟨a, _, e, _⟩ := r; rw [e]; rfl
  | .scr _, _, _, r => by simp only [Rep] at r; obtain ⟨a, e, _⟩ := r; rw [e]; rfl
  | .ktup _, _, _, r => by simp only [Rep] at r; obtain ⟨a, _, e, _⟩ := r; rw [e]; rfl
  | .lst false _, _, _, r => by simp only [Rep] at r; obtain ⟨a, _, e, _⟩ := r; rw [e]; rfl
  | .lst true _, _, _, r => by simp only [Rep] at r; obtain ⟨a, _, _, e, _⟩ := r; rw [e]; rfl
  | .dct false _ _, _, _, r => by simp only [Rep] at r; obtain ⟨a, _, e, _⟩ := r; rw [e]; rfl
  | .dct true _ _, _, _, r => by simp only [Rep] at r; obtain ⟨a, _, _, e, _⟩ := r; rw [e]; rfl
  | .dtt false _ _, _, _, r => by simp only [Rep] at r; obtain ⟨a, _, e, _⟩ := r; rw [e]; rfl
  | .dtt true _ _, _, _, r => by simp only [Rep] at r; obtain ⟨a, _, _, e, _⟩ := r; rw [e]; rfl
  | .obj false _ _ _, _, _, r => by simp only [Rep] at r; obtain ⟨a, _, _, e, _⟩ := r; rw [e]; rfl
  | .obj true _ _ _, _, _, r => by simp only [Rep] at r; obtain ⟨a, _, _, _, e, _⟩ := r; rw [e]; rfl
theorem isND_ok : OpD X cl (fun x y H Q => y = .non ∧ Q (.bl (decide (x = .non))) H) isND := by
  intro B H x y d u v f1 f2 s r1 r2 hg Q q
  have e := non_iff r1
  cases y <;> first | (cases x <;> cases hg; done) | skip
  simp only [Rep] at r2
  refine ⟨r2.1, ?_⟩
  rw [e]
  cases x <;> cases hg <;> exact q _ B H [] (New.refl s) rep_bl Fresh.nil
theorem notND_ok : OpD X cl (fun x y H Q => y = .non ∧ Q (.bl (!decide (x = .non))) H) notND := by
  intro B H x y d u v f1 f2 s r1 r2 hg Q q
  have e := non_iff r1
  cases y <;> first | (cases x <;> cases hg; done) | skip
  simp only [Rep] at r2
  refine ⟨r2.1, ?_⟩
  rw [e]
  cases x <;> cases hg <;> exact q _ B H [] (New.refl s) rep_bl Fresh.nil
/-! ### == of data -/
mutual
/-- as the library's data -/
def D.py : D → Option PyData
  | .non => some .none | .bl b => some (.bool b) | .int i => some (.int i) | .str s => some (.str s)
  | .tup xs => (pyL xs).map .tuple
  | .lst _ xs => (pyL xs).map .list
  | _ => none
def D.pyL : List D → Option (List PyData)
  | [] => some []
  | x :: xs => (x.py).bind fun d => (pyL xs).map (d :: ·)
end
mutual
theorem dp_of (s : BLe B H) : ∀ {d : D} {v : V} {fp : List Addr} {p : PyData}, Rep K cl B H d v fp → d.py = some p → Dp K H v p
  | .non, _, _, _, r, e => by simp only [Rep] at r; simp only [D.py] at e; cases e; rw [r.1]; exact .non
  | .bl _, _, _, _, r, e => by simp only [Rep] at r; simp only [D.py] at e; cases e; rw [r.1]; exact .bl _
  | .int _, _, _, _, r, e => by simp only [Rep] at r; simp only [D.py] at e; cases e; rw [r.1]; exact .int _
  | .str _, _, _, _, r, e => by simp only [Rep] at r; simp only [D.py] at e; cases e; rw [r.1]; exact .str _
  | .tup ds, _, _, _, r, e => by
    obtain ⟨a, vs, e1, q1, q2⟩ := r.tup_view s
    simp only [D.py, Option.map_eq_some_iff] at e
    obtain ⟨ps, e2, e3⟩ := e
    subst e3 e1
    exact .tup (.of q1) (dp_ofL s q2 e2)
  | .lst m ds, _, _, _, r, e => by
    obtain ⟨a, vs, fq, e1, q1, q2, _⟩ := r.lst_view s
    simp only [D.py, Option.map_eq_some_iff] at e
    obtain ⟨ps, e2, e3⟩ := e
    subst e3 e1
    exact .lst (.of q1) (dp_ofL s q2 e2)
  | .scr _, _, _, _, _, e => by simp only [D.py] at e; cases e
  | .ktup _, _, _, _, _, e => by simp only [D.py] at e; cases e
  | .dct _ _ _, _, _, _, _, e => by simp only [D.py] at e; cases e
  | .dtt _ _ _, _, _, _, _, e => by simp only [D.py] at e; cases e
  | .obj _ _ _ _, _, _, _, _, e => by simp only [D.py] at e; cases e
theorem dp_ofL (s : BLe B H) : ∀ {ds : List D} {vs : List V} {fp : List Addr} {ps : List PyData}, RepL K cl B H ds vs fp → D.pyL ds = some ps → DpAll K H vs ps
  | [], _, _, _, r, e => by simp only [RepL] at r; simp only [D.pyL] at e; cases e; rw [r.1]; exact .nil
  | d :: ds, _, _, _, r, e => by
    simp only [RepL] at r
    obtain ⟨v, vr, f1, f2, e1, e2, r1, r2⟩ := r
    subst e1
    simp only [D.pyL, Option.bind_eq_some_iff, Option.map_eq_some_iff] at e
    obtain ⟨p, h1, ps, h2, h3⟩ := e
    subst h3
    exact .cons (dp_of s r1 h1) (dp_ofL s r2 h2)
end
def eqP (x y : D) : Option Bool := (x.py).bind fun p => (y.py).bind fun q => if SeqAt.shaped p = true ∧ SeqAt.shaped q = true then some (PyData.eqv p q) else none
theorem eqP_some {x y : D} {b : Bool} (h : eqP x y = some b) : ∃ p q, x.py = some p ∧ y.py = some q ∧ SeqAt.shaped p = true ∧ SeqAt.shaped q = true ∧ b = PyData.eqv p q := by
  unfold eqP at h
  simp only [Option.bind_eq_some_iff] at h
  obtain ⟨p, h1, q, h2, h3⟩ := h
  by_cases hs : SeqAt.shaped p = true ∧ SeqAt.shaped q = true
  · rw [if_pos hs] at h3; cases h3; exact ⟨p, q, h1, h2, hs.1, hs.2, rfl⟩
  · rw [if_neg hs] at h3; cases h3
/-- the same flat value -/
def sameF : D → D → Bool
  | .non, .non => true
  | .bl a, .bl b => decide (a = b)
  | .int a, .int b => decide (a = b)
  | .str a, .str b => decide (a = b)
  | _, _ => false
/-- two tables with the same flat values at the same keys -/
def dctEq (ks : List Key) (xs : List D) (ls : List Key) (ys : List D) : Bool := decide (ks.length = ls.length) && (ks.zip xs).all fun p => match look ls ys p.1 with
  | some y => sameF p.2 y
  | none => false
theorem sameF_v {x y : D} {u v : V} {f1 f2 : List Addr} (h : sameF x y = true) (r1 : Rep K cl B H x u f1) (r2 : Rep K cl B H y v f2) : u = v ∧ flatB u = true := by
  cases x <;> cases y <;> simp only [sameF] at h <;> try (cases h; done)
  · rw [rep_non_iff] at r1 r2; rw [r1.1, r2.1]; exact ⟨rfl, rfl⟩
  · rw [rep_bl_iff] at r1 r2; rw [r1.1, r2.1]; simp only [decide_eq_true_eq] at h; rw [h]; exact ⟨rfl, rfl⟩
  · rw [rep_int_iff] at r1 r2; rw [r1.1, r2.1]; simp only [decide_eq_true_eq] at h; rw [h]; exact ⟨rfl, rfl⟩
  · rw [rep_str_iff] at r1 r2; rw [r1.1, r2.1]; simp only [decide_eq_true_eq] at h; rw [h]; exact ⟨rfl, rfl⟩
theorem dctEq_v {ks ls : List Key} {xs ys : List D} {us vs : List V} {f1 f2 : List Addr} (h : dctEq ks xs ls ys = true) (l1 : ks.length = xs.length) (l2 : ls.length = ys.length) (r1 : RepL K cl B H xs us f1) (r2 : RepL K cl B H ys vs f2) :
    (ks.zip us).length = (ls.zip vs).length ∧ ∀ p ∈ ks.zip us, valV (ls.zip vs) p.1 = some p.2 ∧ flatB p.2 = true := by
  simp only [dctEq, Bool.and_eq_true, decide_eq_true_eq, List.all_eq_true] at h
  obtain ⟨hl, ha⟩ := h
  have e1 := r1.length
  have e2 := r2.length
  refine ⟨by simp only [List.length_zip]; omega, fun p hp => ?_⟩
  obtain ⟨i, hi⟩ := List.mem_iff_getElem?.mp hp
  rw [List.getElem?_zip_eq_some] at hi
  obtain ⟨i1, i2⟩ := hi
  have hix : i < xs.length := by have := (List.getElem?_eq_some_iff.mp i2).1; omega
  have hx : xs[i]? = some xs[i] := List.getElem?_eq_getElem hix
  have hm : (p.1, xs[i]) ∈ ks.zip xs := List.mem_iff_getElem?.mpr ⟨i, by rw [List.getElem?_zip_eq_some]; exact ⟨i1, hx⟩⟩
  have hv := ha _ hm
  simp only at hv
  split at hv
  · rename_i y hy
    obtain ⟨v, f, q1, q2, _⟩ := (zip_val l2 r2 p.1).1 y hy
    obtain ⟨w, f', q3, q4, _⟩ := r1.get hx
    rw [i2] at q3
    cases q3
    obtain ⟨q5, q6⟩ := sameF_v hv q4 q2
    exact ⟨by rw [q1, q5], q6⟩
  · cases hv
def rEqR : R2 := fun x y H Q => ∃ a b ks ls, x = .ref a ∧ y = .ref b ∧ Rd H a (.dK ks) ∧ Rd H b (.dK ls) ∧ ks.length = ls.length ∧ (∀ p ∈ ks, valV ls p.1 = some p.2 ∧ flatB p.2 = true) ∧ Q (.bl true) H
def rNeR : R2 := fun x y H Q => ∃ a b ks ls, x = .ref a ∧ y = .ref b ∧ Rd H a (.dK ks) ∧ Rd H b (.dK ls) ∧ ks.length = ls.length ∧ (∀ p ∈ ks, valV ls p.1 = some p.2 ∧ flatB p.2 = true) ∧ Q (.bl false) H
theorem op_eqR (hu : X.A.units < cLine) : OpR X (compareOp .Eq) rEqR := by
  intro pins s σ H x y v u Q I rx ry h
  obtain ⟨a, b, ks, ls, rfl, rfl, ea, eb, hlen, hp, q⟩ := h
  obtain rfl : v = Value.ref a := rx
  obtain rfl : u = Value.ref b := ry
  obtain ⟨_, ya, va, ra, da⟩ := (show ObjOk X.prog X.w H s.heap a (.dK ks) from rd_of I.hok ea)
  obtain ⟨_, yb, vb, rb, db⟩ := (show ObjOk X.prog X.w H s.heap b (.dK ls) from rd_of I.hok eb)
  have hl : va.length = vb.length := by rw [← ra.length, ← rb.length]; exact hlen
  exact PySem.W.keq_eq (knd := mixKind X.prog X.w) (r := true) ya yb da db hu (fun _ => hits_all rb ra hp) (fin_bl I q (by simp [hl]))
theorem op_neR (hu : X.A.units < cLine) : OpR X (compareOp .NotEq) rNeR := by
  intro pins s σ H x y v u Q I rx ry h
  obtain ⟨a, b, ks, ls, rfl, rfl, ea, eb, hlen, hp, q⟩ := h
  obtain rfl : v = Value.ref a := rx
  obtain rfl : u = Value.ref b := ry
  obtain ⟨_, ya, va, ra, da⟩ := (show ObjOk X.prog X.w H s.heap a (.dK ks) from rd_of I.hok ea)
  obtain ⟨_, yb, vb, rb, db⟩ := (show ObjOk X.prog X.w H s.heap b (.dK ls) from rd_of I.hok eb)
  have hl : va.length = vb.length := by rw [← ra.length, ← rb.length]; exact hlen
  exact PySem.W.keq_ne (knd := mixKind X.prog X.w) (r := true) ya yb da db hu (fun _ => hits_all rb ra hp) (fin_bl I q (by simp [hl]))
/-- == -/
def eqD : D → D → Option D
  | .int i, .int j => some (.bl (decide (i = j)))
  | .str i, .str j => some (.bl (decide (i = j)))
  | .bl i, .bl j => some (.bl (decide (i = j)))
  | .non, .int _ => some (.bl false)
  | .int _, .non => some (.bl false)
  | .non, .str _ => some (.bl false)
  | .str _, .non => some (.bl false)
  | .non, .non => some (.bl true)
  | .dct _ ks xs, .dct _ ls ys => if dctEq ks xs ls ys = true then some (.bl true) else none
  | x, y => (eqP x y).map .bl
def neD (x y : D) : Option D := match eqD x y with
  | some (.bl b) => some (.bl (!b))
  | _ => none
abbrev rEqA (K : PySem.W.Frag) : R2 := fun x y H Q => (fun x y H Q => rEq x y H Q ∨ rEqD K x y H Q) x y H Q ∨ rEqR x y H Q
abbrev rNeA (K : PySem.W.Frag) : R2 := fun x y H Q => (fun x y H Q => rNe x y H Q ∨ rNeD K x y H Q) x y H Q ∨ rNeR x y H Q
theorem op_eqA (hu : X.A.units + 64 < cLine) : OpR X (compareOp .Eq) (rEqA X.K) := (op_eq.or (op_eqD hu)).or (op_eqR (by omega))
theorem op_neA (hu : X.A.units + 64 < cLine) : OpR X (compareOp .NotEq) (rNeA X.K) := (op_ne.or (op_neD hu)).or (op_neR (by omega))
theorem eqD_cases {x y : D} {b : Bool} (h : eqD x y = some (.bl b)) {u v : V} {f1 f2 : List Addr} (s : BLe B H) (r1 : Rep K cl B H x u f1) (r2 : Rep K cl B H y v f2) :
    ((scal u v = true ∧ b = decide (u = v)) ∨ (∃ p q, Dp K H u p ∧ Dp K H v q ∧ SeqAt.shaped p = true ∧ SeqAt.shaped q = true ∧ b = PyData.eqv p q)) ∨
    (b = true ∧ ∃ a c ks ls, u = .ref a ∧ v = .ref c ∧ Rd H a (.dK ks) ∧ Rd H c (.dK ls) ∧ ks.length = ls.length ∧ ∀ p ∈ ks, valV ls p.1 = some p.2 ∧ flatB p.2 = true) := by
  unfold eqD at h
  split at h
  · cases h; rw [rep_int_iff] at r1 r2; rw [r1.1, r2.1]; exact .inl (.inl ⟨rfl, by simp⟩)
  · cases h; rw [rep_str_iff] at r1 r2; rw [r1.1, r2.1]; exact .inl (.inl ⟨rfl, by simp⟩)
  · cases h; rw [rep_bl_iff] at r1 r2; rw [r1.1, r2.1]; exact .inl (.inl ⟨rfl, by simp⟩)
  · cases h; rw [rep_int_iff] at r2; rw [rep_non_iff] at r1; rw [r1.1, r2.1]; exact .inl (.inl ⟨rfl, by simp⟩)
  · cases h; rw [rep_int_iff] at r1; rw [rep_non_iff] at r2; rw [r1.1, r2.1]; exact .inl (.inl ⟨rfl, by simp⟩)
  · cases h; rw [rep_str_iff] at r2; rw [rep_non_iff] at r1; rw [r1.1, r2.1]; exact .inl (.inl ⟨rfl, by simp⟩)
  · cases h; rw [rep_str_iff] at r1; rw [rep_non_iff] at r2; rw [r1.1, r2.1]; exact .inl (.inl ⟨rfl, by simp⟩)
  · cases h; rw [rep_non_iff] at r1 r2; rw [r1.1, r2.1]; exact .inl (.inl ⟨rfl, by simp⟩)
  · split at h
    · rename_i hd
      cases h
      obtain ⟨a, us, fa, e1, h1, l1, q1⟩ := r1.dct_view s
      obtain ⟨c, vs, fc, e2, h2, l2, q2⟩ := r2.dct_view s
      obtain ⟨k1, k2⟩ := dctEq_v hd l1 l2 q1 q2
      exact .inr ⟨rfl, a, c, _, _, e1, e2, h1, h2, k1, k2⟩
    · cases h
  · simp only [Option.map_eq_some_iff, D.bl.injEq] at h
    obtain ⟨b', h, rfl⟩ := h
    obtain ⟨p, q, h1, h2, s1, s2, h3⟩ := eqP_some h
    exact .inl (.inr ⟨p, q, dp_of s r1 h1, dp_of s r2 h2, s1, s2, h3⟩)
theorem eqD_bl {x y d : D} (h : eqD x y = some d) : ∃ b, d = .bl b := by
  unfold eqD at h
  split at h <;> first | (cases h; exact ⟨_, rfl⟩; done) | skip
  · split at h
    · cases h; exact ⟨_, rfl⟩
    · cases h
  · simp only [Option.map_eq_some_iff] at h
    obtain ⟨b', h, rfl⟩ := h
    exact ⟨_, rfl⟩
theorem eqD_ok : OpD X cl (rEqA X.K) eqD := by
  intro B H x y d u v f1 f2 s r1 r2 hg Q q
  obtain ⟨b, rfl⟩ := eqD_bl hg
  rcases eqD_cases hg s r1 r2 with (⟨h1, h2⟩ | ⟨p, p', d1, d2, s1, s2, h2⟩) | ⟨rfl, a, c, ks, ls, e1, e2, e3, e4, e5, e6⟩
  · exact .inl (.inl ⟨h1, by rw [← h2]; exact q _ B H [] (New.refl s) rep_bl Fresh.nil⟩)
  · exact .inl (.inr ⟨p, p', d1, d2, s1, s2, by rw [← h2]; exact q _ B H [] (New.refl s) rep_bl Fresh.nil⟩)
  · exact .inr ⟨a, c, ks, ls, e1, e2, e3, e4, e5, e6, q _ B H [] (New.refl s) rep_bl Fresh.nil⟩
theorem neD_ok : OpD X cl (rNeA X.K) neD := by
  intro B H x y d u v f1 f2 s r1 r2 hg Q q
  unfold neD at hg
  split at hg
  · rename_i b hb
    cases hg
    rcases eqD_cases hb s r1 r2 with (⟨h1, h2⟩ | ⟨p, p', d1, d2, s1, s2, h2⟩) | ⟨rfl, a, c, ks, ls, e1, e2, e3, e4, e5, e6⟩
    · exact .inl (.inl ⟨h1, by rw [← h2]; exact q _ B H [] (New.refl s) rep_bl Fresh.nil⟩)
    · exact .inl (.inr ⟨p, p', d1, d2, s1, s2, by rw [← h2]; exact q _ B H [] (New.refl s) rep_bl Fresh.nil⟩)
    · exact .inr ⟨a, c, ks, ls, e1, e2, e3, e4, e5, e6, q _ B H [] (New.refl s) rep_bl Fresh.nil⟩
  · cases hg
end
end VI
set_option Elab.async false
set_option linter.all false
set_option maxRecDepth 100000
set_option autoImplicit false
namespace VI
open PySem L2
section
variable {X : Cx} {cl : Nat → Addr} {e a b c : Expr} {es : List Expr} {m ma mb mc : Ev → Option D} {ms : Ev → Option (List D)} {pos : Pos} {B H : Hp} {K : PySem.W.Frag}
/-! ### arguments, displays -/
def mNil : Ev → Option (List D) := fun _ => some []
def mCons (m : Ev → Option D) (ms : Ev → Option (List D)) : Ev → Option (List D) := fun A => (m A).bind fun d => (ms A).map (d :: ·)
theorem mCons_some {A : Ev} {ds : List D} (h : mCons m ms A = some ds) : ∃ d r, m A = some d ∧ ms A = some r ∧ ds = d :: r := by
  unfold mCons at h
  simp only [Option.bind_eq_some_iff, Option.map_eq_some_iff] at h
  obtain ⟨d, h1, r, h2, h3⟩ := h
  exact ⟨d, r, h1, h2, h3.symm⟩
theorem repL_nil : RepL K cl B H [] [] [] := by simp only [RepL]; exact ⟨trivial, trivial⟩
theorem repL_cons {d : D} {ds : List D} {v : V} {vs : List V} {f g : List Addr} (h : Rep K cl B H d v f) (r : RepL K cl B H ds vs g) : RepL K cl B H (d :: ds) (v :: vs) (f ++ g) := by
  simp only [RepL]; exact ⟨v, vs, f, g, rfl, rfl, h, r⟩
theorem ea_nil : EvA X cl [] mNil := ⟨_, pa_nil, fun σ A B H R ds e Q q => by cases e; exact q [] B H [] (New.refl R.sub) repL_nil⟩
theorem ea_cons (h : EvV X cl e m) (hr : EvA X cl es ms) (hs : starEach (e :: es) X.env = (false, eval e X.env) :: starEach es X.env := by rfl) : EvA X cl (e :: es) (mCons m ms) := by
  obtain ⟨t, p, r⟩ := h
  obtain ⟨t2, p2, r2⟩ := hr
  refine ⟨_, pa_cons p p2 hs, fun σ A B H R ds he Q q => ?_⟩
  obtain ⟨d, dr, h1, h2, rfl⟩ := mCons_some he
  exact r σ A B H R d h1 _ fun v B1 H1 f1 n1 rp => r2 σ A B1 H1 (R.news n1) dr h2 _ fun vs B2 H2 f2 n2 rps => q (v :: vs) B2 H2 _ (n1.trans n2) (repL_cons (rp.news n2) rps)
theorem ed_nil : EvAD X cl [] mNil := ⟨_, pa_nil, fun σ A B H R ds e Q q => by cases e; exact q [] B H [] (New.refl R.sub) repL_nil Fresh.nil⟩
theorem Fresh.append {B1 H1 B2 H2 B0 : Hp} {f g : List Addr} (x : Fresh H B1 f) (st : ∀ a ∈ f, ∃ o, H1 a = some o ∧ ownable o = true) (n1 : New B0 H B1 H1) (n : New B1 H1 B2 H2) (y : Fresh H1 B2 g) : Fresh H B2 (f ++ g) := by
  have x' := x.news n st
  refine ⟨List.nodup_append.mpr ⟨x.nd, y.nd, fun a ha b hb hab => ?_⟩, fun a z => ?_, fun a z => ?_⟩
  · subst hab
    obtain ⟨o, e, _⟩ := st a ha
    rw [y.nh a hb] at e; cases e
  · rcases List.mem_append.mp z with z | z
    · exact x.nh a z
    · exact none_back n1.ex (y.nh a z)
  · rcases List.mem_append.mp z with z | z
    · exact x'.nb a z
    · exact y.nb a z
theorem ed_cons (h : EvD X cl e m) (hr : EvAD X cl es ms) (hs : starEach (e :: es) X.env = (false, eval e X.env) :: starEach es X.env := by rfl) : EvAD X cl (e :: es) (mCons m ms) := by
  obtain ⟨t, p, r⟩ := h
  obtain ⟨t2, p2, r2⟩ := hr
  refine ⟨_, pa_cons p p2 hs, fun σ A B H R ds he Q q => ?_⟩
  obtain ⟨d, dr, h1, h2, rfl⟩ := mCons_some he
  exact r σ A B H R d h1 _ fun v B1 H1 f1 n1 rp fr => r2 σ A B1 H1 (R.news n1) dr h2 _ fun vs B2 H2 f2 n2 rps fr2 => q (v :: vs) B2 H2 _ (n1.trans n2) (repL_cons (rp.news n2) rps) (fr.append rp.stand' n1 n2 fr2)
def mLst (ms : Ev → Option (List D)) : Ev → Option D := fun A => (ms A).bind fun ds => if ds.length ≤ 1000 then some (.lst true ds) else none
def mTup (ms : Ev → Option (List D)) : Ev → Option D := fun A => (ms A).bind fun ds => if ds.length ≤ 1000 then some (.tup ds) else none
theorem le_line {n : Nat} (h : n ≤ 1000) : n ≤ sizeLine := Nat.le_trans h (by rw [sizeLine_eq]; decide)
theorem Fresh.cons {B2 : Hp} {B1 H1 : Hp} {B0 : Hp} {f : List Addr} {p : Addr} {o : HO} (n : New B0 H B1 H1) (x : Fresh H B1 f) (st : ∀ a ∈ f, ∃ o, H1 a = some o) (hp : H1 p = none) : Fresh H B1 (p :: f) := by
  refine ⟨List.nodup_cons.mpr ⟨fun z => ?_, x.nd⟩, fun a z => ?_, fun a z => ?_⟩
  · obtain ⟨o, e⟩ := st p z; rw [hp] at e; cases e
  · rcases List.mem_cons.mp z with rfl | z
    · exact none_back n.ex hp
    · exact x.nh a z
  · rcases List.mem_cons.mp z with rfl | z
    · exact n.sub.none_of hp
    · exact x.nb a z
theorem ev_lst (h : EvAD X cl es ms) : EvD X cl (.List es pos) (mLst ms) := by
  obtain ⟨t, p, r⟩ := h
  refine ⟨_, pe_lst p, fun σ A B H R d he Q q => ?_⟩
  unfold mLst at he
  simp only [Option.bind_eq_some_iff] at he
  obtain ⟨ds, h1, h2⟩ := he
  by_cases hl : ds.length ≤ 1000
  · rw [if_pos hl] at h2; cases h2
    refine r σ A B H R ds h1 _ fun vs B1 H1 f1 n1 rp fr => ⟨by rw [← rp.length]; exact le_line hl, fun p hp => ?_⟩
    have n2 := New.own (o := .lst vs) n1.sub hp
    refine q _ B1 _ (p :: f1) (n1.trans n2) ?_ (fr.cons (B2 := B1) (o := .lst vs) n1 rp.stand hp)
    simp only [Rep]
    exact ⟨p, vs, f1, rfl, upd_same, rp.news n2, rfl⟩
  · rw [if_neg hl] at h2; cases h2
theorem ev_tup {x1} (h : EvAD X cl es ms) : EvD X cl (.Tuple es x1 pos) (mTup ms) := by
  obtain ⟨t, p, r⟩ := h
  refine ⟨_, pe_tup p, fun σ A B H R d he Q q => ?_⟩
  unfold mTup at he
  simp only [Option.bind_eq_some_iff] at he
  obtain ⟨ds, h1, h2⟩ := he
  by_cases hl : ds.length ≤ 1000
  · rw [if_pos hl] at h2; cases h2
    refine r σ A B H R ds h1 _ fun vs B1 H1 f1 n1 rp fr => ⟨by rw [← rp.length]; exact le_line hl, fun p hp => ?_⟩
    have n2 := New.told (o := .tup vs) n1.sub hp
    refine q _ _ _ f1 (n1.trans n2) ?_ (fr.news n2 rp.stand')
    simp only [Rep]
    exact ⟨p, vs, rfl, upd_same, rp.news n2⟩
  · rw [if_neg hl] at h2; cases h2
/-- {} whose keys are ints and texts; tuples -/
theorem ev_dnewK : EvD X cl (.Dict [] [] pos) (mC (.dct true [] [])) := by
  refine ⟨_, pe_dnewK, fun σ A B H R d he Q q p hp => ?_⟩
  cases he
  have n2 := New.own (o := .dK []) R.sub hp
  exact q _ B _ [p] n2 (by simp only [Rep, RepL]; exact ⟨p, [], [], rfl, upd_same, rfl, ⟨rfl, rfl⟩, rfl⟩) (fresh_one R.sub hp)
theorem ev_dnewT : EvD X cl (.Dict [] [] pos) (mC (.dtt true [] [])) := by
  refine ⟨_, pe_dnewT, fun σ A B H R d he Q q p hp => ?_⟩
  cases he
  have n2 := New.own (o := .dT []) R.sub hp
  exact q _ B _ [p] n2 (by simp only [Rep, RepL]; exact ⟨p, [], [], rfl, upd_same, rfl, ⟨rfl, rfl⟩, rfl⟩) (fresh_one R.sub hp)
/-! ### attributes -/
theorem zip_fld : ∀ {fs : List Str} {ds : List D} {vs : List V} {fp : List Addr}, fs.length = ds.length → RepL K cl B H ds vs fp → ∀ {f : Str} {d : D}, (fs.zip ds).lookup f = some d → ∃ v f', (fs.zip vs).lookup f = some v ∧ Rep K cl B H d v f' ∧ ∀ a ∈ f', a ∈ fp
  | [], [], _, _, _, _, _, _, e => by simp at e
  | [], _ :: _, _, _, l, _, _, _, _ => by simp at l
  | _ :: _, [], _, _, l, _, _, _, _ => by simp at l
  | g :: fs, d' :: ds, _, _, l, h, f, d, e => by
    simp only [RepL] at h
    obtain ⟨v, vr, f1, f2, e1, e2, r, rr⟩ := h
    subst e1 e2
    rw [List.zip_cons_cons, List.lookup_cons] at e
    rw [List.zip_cons_cons, List.lookup_cons]
    cases hk : f == g with
    | true => rw [hk] at e; simp at e; subst e; exact ⟨v, f1, rfl, r, fun a z => by simp [z]⟩
    | false =>
      rw [hk] at e
      obtain ⟨w, f', q1, q2, q3⟩ := zip_fld (fs := fs) (ds := ds) (by simpa using l) rr e
      exact ⟨w, f', q1, q2, fun a z => by simp [q3 a z]⟩
def mFld (c : Nat) (f : Str) (m : Ev → Option D) : Ev → Option D := fun A => match m A with
  | some (.obj _ c' fs xs) => if c' = c then (fs.zip xs).lookup f else none
  | _ => none
theorem ev_fld {c : Nat} {f : Str} (hC : Cls X.K (cl c)) (hN : NoAttr X.K (cl c) f) (h : EvV X cl e m) (hb : attributeBase e f X.env (eval e X.env) = eval e X.env := by rfl) : EvV X cl (.Attribute e f pos) (mFld c f m) := by
  obtain ⟨t, p, r⟩ := h
  refine ⟨_, pe_fld p hb, fun σ A B H R d he Q q => ?_⟩
  unfold mFld at he
  split at he
  · rename_i mm c' fs xs hm
    by_cases hc : c' = c
    · rw [if_pos hc] at he
      subst hc
      refine r σ A B H R _ hm _ fun v B1 H1 f1 n1 rp => ?_
      obtain ⟨a, dx, vs, fq, e1, q1, l, q2⟩ := rp.obj_view n1.sub
      obtain ⟨w, f', k1, k2, _⟩ := zip_fld l q2 he
      exact ⟨a, _, dx, _, w, e1, q1, hC, hN, k1, q w B1 H1 f' n1 k2⟩
    · rw [if_neg hc] at he; cases he
  · cases he
/-! ### subscripts -/
def keyD : D → Option Key
  | .int i => some (.inl i)
  | .str s => some (.inr s)
  | _ => none
def keysD : List D → Option (List Key)
  | [] => some []
  | d :: ds => (keyD d).bind fun k => (keysD ds).map (k :: ·)
theorem keyD_v {d : D} {k : Key} {v : V} {fp : List Addr} (h : keyD d = some k) (r : Rep K cl B H d v fp) : v = kV k := by
  cases d <;> simp only [keyD] at h <;> try (cases h; done)
  · cases h; rw [rep_int_iff] at r; exact r.1
  · cases h; rw [rep_str_iff] at r; exact r.1
theorem keysD_v : ∀ {ds : List D} {ks : List Key} {vs : List V} {fp : List Addr}, keysD ds = some ks → RepL K cl B H ds vs fp → vs = ks.map kV
  | [], _, _, _, h, r => by simp only [keysD] at h; cases h; simp only [RepL] at r; rw [r.1]; rfl
  | d :: ds, _, _, _, h, r => by
    simp only [keysD, Option.bind_eq_some_iff, Option.map_eq_some_iff] at h
    obtain ⟨k, h1, ks, h2, h3⟩ := h
    subst h3
    simp only [RepL] at r
    obtain ⟨v, vr, f1, f2, e1, e2, r1, r2⟩ := r
    rw [e1, keyD_v h1 r1, keysD_v h2 r2]; rfl
theorem atI_map {α β : Type} (f : α → β) (xs : List α) (i : Int) : atI (xs.map f) i = (atI xs i).map f := by
  unfold atI
  rw [List.length_map]
  cases ixN xs.length i with
  | none => rfl
  | some j => simp only [Option.bind_some, List.getElem?_map]
def subscr : D → D → Option D
  | .lst _ xs, .int i => atI xs i
  | .tup xs, .int i => atI xs i
  | .ktup xs, .int i => atI xs i
  | .str s, .int i => if s.length ≤ sizeLine then (atI s.cps.toList i).map fun c => .str ⟨#[c]⟩ else none
  | .scr ns, .int i => (atI ns i).map .int
  | .dct _ ks xs, k => (keyD k).bind (look ks xs)
  | .dtt _ ks xs, .tup k => (keysD k).bind (look ks xs)
  | _, _ => none
theorem PE.or {t u : TE} (h : PE X e t) (h' : PE X e u) : PE X e (fun σ H Q => t σ H Q ∨ u σ H Q) := ⟨fun pins s σ H Q I q => q.elim (h.run pins s σ H Q I) (h'.run pins s σ H Q I)⟩
theorem PT.or {t u : TT} (h : PT X e t) (h' : PT X e u) : PT X e (fun σ H Q => t σ H Q ∨ u σ H Q) := ⟨fun pins s σ H Q I q => q.elim (h.run pins s σ H Q I) (h'.run pins s σ H Q I)⟩
theorem atI_rep {xs : List D} {vs : List V} {fp : List Addr} (h : RepL K cl B H xs vs fp) {i : Int} {d : D} (e : atI xs i = some d) : ∃ v f, atI vs i = some v ∧ Rep K cl B H d v f ∧ ∀ a ∈ f, a ∈ fp := by
  unfold atI at e ⊢
  rw [← h.length]
  cases hx : ixN xs.length i with
  | none => rw [hx] at e; cases e
  | some j =>
    rw [hx] at e
    obtain ⟨v, f, h1, h2, h3⟩ := h.get (i := j) (d := d) (by simpa using e)
    exact ⟨v, f, by simpa using h1, h2, h3⟩
theorem look_rep {κ : Type} [DecidableEq κ] {ks : List κ} {ds : List D} {vs : List V} {fp : List Addr} (l : ks.length = ds.length) (h : RepL K cl B H ds vs fp) {k : κ} {d : D} (e : look ks ds k = some d) : ∃ v f, valV (ks.zip vs) k = some v ∧ Rep K cl B H d v f ∧ ∀ a ∈ f, a ∈ fp := (zip_val l h k).1 d e
theorem look_no {κ : Type} [DecidableEq κ] {ks : List κ} {ds : List D} {vs : List V} {fp : List Addr} (l : ks.length = ds.length) (h : RepL K cl B H ds vs fp) {k : κ} (e : look ks ds k = none) : valV (ks.zip vs) k = none := (zip_val l h k).2 (look_none.mp e)
theorem ev_sub (hu : X.A.units + 64 < cLine) (ha : EvV X cl a ma) (hb : EvV X cl b mb) (hs : PlainIx b := by exact fun _ _ => rfl) : EvV X cl (.Subscript a b pos) (mOp subscr ma mb) := by
  obtain ⟨ta, pa, ra⟩ := ha
  obtain ⟨tb, pb, rb⟩ := hb
  refine ⟨_, PE.or (pe_ix ix_seq pa pb hs) (pe_dget (by omega) pa pb hs), fun σ A B H R d he Q q => ?_⟩
  obtain ⟨x, y, hx, hy, hg⟩ := mOp_some he
  have T := fun P => two (P := P) ra rb R hx hy
  cases x <;> simp only [subscr] at hg <;> try (cases hg; done)
  case lst mm xs =>
    cases y <;> simp only at hg <;> try (cases hg; done)
    refine .inl (T _ fun u v B' H' f1 f2 n r1 r2 => ?_)
    obtain ⟨p, vs, fq, e1, q1, q2, _⟩ := r1.lst_view n.sub
    rw [rep_int_iff] at r2
    obtain ⟨w, f, k1, k2, _⟩ := atI_rep q2 hg
    exact .inl ⟨p, vs, _, w, e1, r2.1, .of q1, k1, q w B' H' f n k2⟩
  case tup xs =>
    cases y <;> simp only at hg <;> try (cases hg; done)
    refine .inl (T _ fun u v B' H' f1 f2 n r1 r2 => ?_)
    obtain ⟨p, vs, e1, q1, q2⟩ := r1.tup_view n.sub
    rw [rep_int_iff] at r2
    obtain ⟨w, f, k1, k2, _⟩ := atI_rep q2 hg
    exact .inr (.inl ⟨p, vs, _, w, e1, r2.1, .of q1, k1, q w B' H' f n k2⟩)
  case ktup xs =>
    cases y <;> simp only at hg <;> try (cases hg; done)
    refine .inl (T _ fun u v B' H' f1 f2 n r1 r2 => ?_)
    obtain ⟨p, vs, e1, q1, q2⟩ := r1.ktup_view n.sub
    rw [rep_int_iff] at r2
    obtain ⟨w, f, k1, k2, _⟩ := atI_rep q2 hg
    exact .inr (.inl ⟨p, vs, _, w, e1, r2.1, q1, k1, q w B' H' f n k2⟩)
  case str z =>
    cases y <;> simp only at hg <;> try (cases hg; done)
    by_cases hl : z.length ≤ sizeLine
    · rw [if_pos hl] at hg
      simp only [Option.map_eq_some_iff] at hg
      obtain ⟨c, hc, rfl⟩ := hg
      refine .inl (T _ fun u v B' H' f1 f2 n r1 r2 => ?_)
      rw [rep_int_iff] at r2
      rw [rep_str_iff] at r1
      exact .inr (.inr ⟨z, _, c, r1.1, r2.1, hl, hc, q _ B' H' [] n rep_str⟩)
    · rw [if_neg hl] at hg; cases hg
  case scr ns =>
    cases y <;> simp only at hg <;> try (cases hg; done)
    simp only [Option.map_eq_some_iff] at hg
    obtain ⟨k, hk, rfl⟩ := hg
    refine .inl (T _ fun u v B' H' f1 f2 n r1 r2 => ?_)
    rw [rep_int_iff] at r2
    simp only [Rep] at r1
    obtain ⟨p, e1, q1, _⟩ := r1
    exact .inl ⟨p, _, _, .int k, e1, r2.1, n.sub.sqL q1, by rw [atI_map, hk]; rfl, q _ B' H' [] n rep_int⟩
  case dct mm ks xs =>
    simp only [Option.bind_eq_some_iff] at hg
    obtain ⟨k, hk, hg⟩ := hg
    refine .inr (T _ fun u v B' H' f1 f2 n r1 r2 => ?_)
    obtain ⟨p, vs, fq, e1, q1, l, q2⟩ := r1.dct_view n.sub
    obtain ⟨w, f, k1, k2, _⟩ := look_rep l q2 hg
    exact ⟨p, w, e1, .inl ⟨_, k, q1, keyD_v hk r2, k1.symm⟩, q w B' H' f n k2⟩
  case dtt mm ks xs =>
    cases y <;> simp only at hg <;> try (cases hg; done)
    simp only [Option.bind_eq_some_iff] at hg
    obtain ⟨k, hk, hg⟩ := hg
    refine .inr (T _ fun u v B' H' f1 f2 n r1 r2 => ?_)
    obtain ⟨p, vs, fq, e1, q1, l, q2⟩ := r1.dtt_view n.sub
    obtain ⟨p2, ws, e2, q3, q4⟩ := r2.tup_view n.sub
    obtain ⟨w, f, k1, k2, _⟩ := look_rep l q2 hg
    rw [keysD_v hk q4] at q3
    exact ⟨p, w, e1, .inr ⟨_, k, p2, q1, e2, q3, k1.symm⟩, q w B' H' f n k2⟩
/-! ### slices -/
def EvO (X : Cx) (cl : Nat → Addr) (e : Option Expr) (m : Ev → Option (Option Int)) : Prop := ∃ t : TO, PO X e t ∧ ∀ σ A B H, REnv X.K cl B H σ A → ∀ o, m A = some o → ∀ Q : Option Int → Hp → Prop, (∀ B' H', New B H B' H' → Q o H') → t σ H Q
def mONone : Ev → Option (Option Int) := fun _ => some none
def mOSome (m : Ev → Option D) : Ev → Option (Option Int) := fun A => match m A with
  | some (.int i) => some (some i)
  | _ => none
theorem eo_none : EvO X cl none mONone := ⟨_, po_none, fun σ A B H R o e Q q => by cases e; exact q B H (New.refl R.sub)⟩
theorem eo_some (h : EvV X cl e m) : EvO X cl (some e) (mOSome m) := by
  obtain ⟨t, p, r⟩ := h
  refine ⟨_, po_some p, fun σ A B H R o he Q q => ?_⟩
  unfold mOSome at he
  split at he
  · rename_i i hm
    cases he
    refine r σ A B H R _ hm _ fun v B1 H1 f1 n1 rp => ?_
    rw [rep_int_iff] at rp
    exact ⟨i, rp.1, q B1 H1 n1⟩
  · cases he
def cutD {α : Type} (xs : List α) (lo hi : Option Int) : List α := (xs.drop (HT.sIx xs.length 0 lo)).take (HT.sIx xs.length xs.length hi - HT.sIx xs.length 0 lo)
theorem RepL.drop {xs : List D} {vs : List V} (h : RepL K cl B H xs vs []) : ∀ n : Nat, RepL K cl B H (xs.drop n) (vs.drop n) [] := by
  intro n
  induction n generalizing xs vs with
  | zero => exact h
  | succ n ih =>
    cases xs with
    | nil => simp only [RepL] at h; rw [h.1]; simpa using repL_nil
    | cons x xs =>
      simp only [RepL] at h
      obtain ⟨v, vr, f1, f2, e1, e2, _, r⟩ := h
      subst e1
      have : f2 = [] := (List.append_eq_nil_iff.mp e2.symm).2
      subst this
      simpa using ih r
theorem RepL.take {xs : List D} {vs : List V} (h : RepL K cl B H xs vs []) : ∀ n : Nat, RepL K cl B H (xs.take n) (vs.take n) [] := by
  intro n
  induction n generalizing xs vs with
  | zero => simpa using repL_nil
  | succ n ih =>
    cases xs with
    | nil => simp only [RepL] at h; rw [h.1]; simpa using repL_nil
    | cons x xs =>
      simp only [RepL] at h
      obtain ⟨v, vr, f1, f2, e1, e2, r0, r⟩ := h
      subst e1
      have h1 : f1 = [] := (List.append_eq_nil_iff.mp e2.symm).1
      have h2 : f2 = [] := (List.append_eq_nil_iff.mp e2.symm).2
      subst h1 h2
      simpa using repL_cons r0 (ih r)
theorem cut_rep {xs : List D} {vs : List V} (h : RepL K cl B H xs vs []) (lo hi : Option Int) : RepL K cl B H (cutD xs lo hi) (cutV vs lo hi) [] := by
  unfold cutD cutV
  rw [← h.length]
  exact (h.drop _).take _
def sliceD (x : D) (lo hi : Option Int) : Option D := match x with
  | .lst _ xs => if D.plainL xs = true then some (.lst true (cutD xs lo hi)) else none
  | .str s => if s.length ≤ sizeLine then some (.str (cutS s lo hi)) else none
  | _ => none
def mSl (m : Ev → Option D) (l h : Ev → Option (Option Int)) : Ev → Option D := fun A => (m A).bind fun x => (l A).bind fun lo => (h A).bind fun hi => sliceD x lo hi
theorem ev_slice {lo hi : Option Expr} {ml mh : Ev → Option (Option Int)} {p2 : Pos} (he : EvV X cl e m) (hl : EvO X cl lo ml) (hh : EvO X cl hi mh) : EvD X cl (.Subscript e (.Slice lo hi none p2) pos) (mSl m ml mh) := by
  obtain ⟨t, p, r⟩ := he
  obtain ⟨t1, p1, r1⟩ := hl
  obtain ⟨t3, p3, r3⟩ := hh
  refine ⟨_, pe_slice (sl_list.or sl_str) p p1 p3, fun σ A B H R d he Q q => ?_⟩
  unfold mSl at he
  simp only [Option.bind_eq_some_iff] at he
  obtain ⟨x, hx, l, hl, u, hu, hg⟩ := he
  refine r σ A B H R x hx _ fun v B1 H1 f1 n1 rp => ?_
  refine r1 σ A B1 H1 (R.news n1) l hl _ fun B2 H2 n2 => ?_
  refine r3 σ A B2 H2 ((R.news n1).news n2) u hu _ fun B3 H3 n3 => ?_
  have rp' := (rp.news n2).news n3
  have n := (n1.trans n2).trans n3
  cases x <;> simp only [sliceD] at hg <;> try (cases hg; done)
  case lst mm xs =>
    by_cases hp : D.plainL xs = true
    · rw [if_pos hp] at hg; cases hg
      obtain ⟨a, vs, fq, e1, q1, q2, _⟩ := rp'.lst_view n.sub
      refine .inl ⟨a, vs, e1, .of q1, fun p hp' => ?_⟩
      have n4 := New.own (o := .lst (cutV vs l u)) n.sub hp'
      exact q _ B3 _ [p] (n.trans n4) (rep_newList (B' := B3) n4 (cut_rep (q2.pl hp) l u)) ⟨by simp, fun a z => by simp at z; subst z; exact none_back n.ex hp', fun a z => by simp at z; subst z; exact n.sub.none_of hp'⟩
    · rw [if_neg hp] at hg; cases hg
  case str s =>
    by_cases hp : s.length ≤ sizeLine
    · rw [if_pos hp] at hg; cases hg
      rw [rep_str_iff] at rp'
      exact .inr ⟨s, rp'.1, hp, q _ B3 H3 [] n rep_str Fresh.nil⟩
    · rw [if_neg hp] at hg; cases hg
end
end VI
set_option Elab.async false
set_option linter.all false
set_option maxRecDepth 100000
set_option autoImplicit false
namespace VI
open PySem L2
section
variable {X : Cx} {cl : Nat → Addr} {e a b c : Expr} {es : List Expr} {m ma mb mc : Ev → Option D} {ms : Ev → Option (List D)} {pos p : Pos} {B H : Hp} {K : PySem.W.Frag}
/-! ### in -/
def eqF : D → D → Bool
  | .non, .non => true
  | .bl a, .bl b => a == b
  | .bl a, .int b => (if a then 1 else 0) == b
  | .int a, .bl b => a == (if b then 1 else 0)
  | .int a, .int b => a == b
  | .str a, .str b => a == b
  | _, _ => false
def flatD : D → Bool
  | .non => true | .bl _ => true | .int _ => true | .str _ => true
  | _ => false
def inF (x : D) (xs : List D) : Bool := xs.any fun y => eqF y x
theorem flat_v {d : D} {v : V} {fp : List Addr} (f : flatD d = true) (r : Rep K cl B H d v fp) : flatV v = true := by
  cases d <;> simp only [flatD] at f <;> try (cases f; done)
  · rw [rep_non_iff] at r; rw [r.1]; rfl
  · rw [rep_bl_iff] at r; rw [r.1]; rfl
  · rw [rep_int_iff] at r; rw [r.1]; rfl
  · rw [rep_str_iff] at r; rw [r.1]; rfl
theorem eqF_v {x y : D} {u v : V} {f1 f2 : List Addr} (fx : flatD x = true) (fy : flatD y = true) (r1 : Rep K cl B H x u f1) (r2 : Rep K cl B H y v f2) : eqV u v = eqF x y := by
  cases x <;> simp only [flatD] at fx <;> try (cases fx; done)
  all_goals (cases y <;> simp only [flatD] at fy <;> try (cases fy; done))
  all_goals (simp only [Rep] at r1 r2; rw [r1.1, r2.1]; rfl)
theorem inF_v {x : D} {v : V} {f1 : List Addr} (fx : flatD x = true) (r : Rep K cl B H x v f1) : ∀ {xs : List D} {vs : List V} {fp : List Addr}, xs.all flatD = true → RepL K cl B H xs vs fp → vs.all flatV = true ∧ inV v vs = inF x xs
  | [], _, _, _, h => by simp only [RepL] at h; rw [h.1]; exact ⟨rfl, rfl⟩
  | y :: xs, _, _, f, h => by
    simp only [RepL] at h
    obtain ⟨w, vr, g1, g2, e1, _, q1, q2⟩ := h
    rw [List.all_cons, Bool.and_eq_true] at f
    obtain ⟨i1, i2⟩ := inF_v fx r f.2 q2
    subst e1
    refine ⟨by rw [List.all_cons, flat_v f.1 q1, i1]; rfl, ?_⟩
    unfold inV inF at i2 ⊢
    rw [List.any_cons, List.any_cons, eqF_v f.1 fx q1 r, i2]
def inP (x : D) (xs : List D) : Option Bool := (x.py).bind fun p => (D.pyL xs).bind fun ps => if SeqAt.shaped p = true ∧ SeqAt.shaped (.list ps) = true then some (ps.any fun z => PyData.eqv z p) else none
def inD (x y : D) : Option D := match y with
  | .lst _ xs => if flatD x = true ∧ xs.all flatD = true then some (.bl (inF x xs)) else (inP x xs).map .bl
  | .tup xs => if flatD x = true ∧ xs.all flatD = true then some (.bl (inF x xs)) else none
  | .ktup xs => if flatD x = true ∧ xs.all flatD = true then some (.bl (inF x xs)) else none
  | .str s => match x with
    | .str z => if z.length = 1 then some (.bl (decide (z.cps.getD 0 0 ∈ s.cps.toList))) else none
    | _ => none
  | .dct _ ks ds => (keyD x).map fun k => .bl (look ks ds k).isSome
  | .dtt _ ks ds => match x with
    | .tup xs => (keysD xs).map fun k => .bl (look ks ds k).isSome
    | _ => none
  | _ => none
def ninD (x y : D) : Option D := match inD x y with
  | some (.bl b) => some (.bl (!b))
  | _ => none
/-- in, by values: flat, deep, a sign -/
abbrev rInA (K : PySem.W.Frag) (neg : Bool) : R2 := fun x y H Q => rIn K neg x y H Q ∨ (∃ d ds, Dp K H x d ∧ Dp K H y (.list ds) ∧ SeqAt.shaped d = true ∧ SeqAt.shaped (.list ds) = true ∧ Q (.bl (if neg then !ds.any fun z => PyData.eqv z d else ds.any fun z => PyData.eqv z d)) H) ∨
  (∃ (c : Nat) (z : Str), x = .str ⟨#[c]⟩ ∧ y = .str z ∧ Q (.bl (if neg then !decide (c ∈ z.cps.toList) else decide (c ∈ z.cps.toList))) H)
theorem op_inA (hu : X.A.units + 65 < cLine) : OpR X (compareOp .In) (rInA X.K false) := op_in_seq.or (OpR.or (op_inD hu) op_in_sign)
theorem op_ninA (hu : X.A.units + 65 < cLine) : OpR X (compareOp .NotIn) (rInA X.K true) := op_notIn_seq.or (OpR.or (op_notInD hu) op_notIn_sign)
theorem one_sign {z : Str} (h : z.length = 1) : z = ⟨#[z.cps.getD 0 0]⟩ := by
  obtain ⟨cps⟩ := z
  obtain ⟨l⟩ := cps
  have hl : l.length = 1 := h
  match l, hl with
  | [c], _ => rfl
theorem valV_some {κ : Type} [DecidableEq κ] {ks : List κ} {ds : List D} {vs : List V} {fp : List Addr} (l : ks.length = ds.length) (h : RepL K cl B H ds vs fp) (k : κ) : (valV (ks.zip vs) k).isSome = (look ks ds k).isSome := by
  cases e : look ks ds k with
  | none => rw [look_no l h e]; rfl
  | some d => obtain ⟨v, _, q, _⟩ := look_rep l h e; rw [q]; rfl
def dictish : D → Bool
  | .dct _ _ _ => true
  | .dtt _ _ _ => true
  | _ => false
theorem inA_seq {neg : Bool} {x y : D} {r : Bool} {u v : V} {f1 f2 : List Addr} {Q : VK} (nd : dictish y = false) (s : BLe B H) (r1 : Rep K cl B H x u f1) (r2 : Rep K cl B H y v f2) (hg : inD x y = some (.bl r)) (q : Q (.bl (if neg then !r else r)) H) : rInA K neg u v H Q := by
  cases y <;> simp only [inD] at hg <;> try (cases hg; done)
  case lst mm xs =>
    obtain ⟨p, vs, fq, e1, q1, q2, _⟩ := r2.lst_view s
    by_cases hf : flatD x = true ∧ xs.all flatD = true
    · rw [if_pos hf] at hg; cases hg
      obtain ⟨i1, i2⟩ := inF_v hf.1 r1 hf.2 q2
      exact .inl ⟨p, vs, e1, .inl (.of q1), flat_v hf.1 r1, i1, by rw [i2]; exact q⟩
    · rw [if_neg hf] at hg
      simp only [Option.map_eq_some_iff, D.bl.injEq] at hg
      obtain ⟨b', hg, rfl⟩ := hg
      unfold inP at hg
      simp only [Option.bind_eq_some_iff] at hg
      obtain ⟨dp, h1, ps, h2, h3⟩ := hg
      by_cases hs : SeqAt.shaped dp = true ∧ SeqAt.shaped (.list ps) = true
      · rw [if_pos hs] at h3; cases h3
        subst e1
        exact .inr (.inl ⟨dp, ps, dp_of s r1 h1, .lst (.of q1) (dp_ofL s q2 h2), hs.1, hs.2, q⟩)
      · rw [if_neg hs] at h3; cases h3
  case tup xs =>
    obtain ⟨p, vs, e1, q1, q2⟩ := r2.tup_view s
    by_cases hf : flatD x = true ∧ xs.all flatD = true
    · rw [if_pos hf] at hg; cases hg
      obtain ⟨i1, i2⟩ := inF_v hf.1 r1 hf.2 q2
      exact .inl ⟨p, vs, e1, .inr (.of q1), flat_v hf.1 r1, i1, by rw [i2]; exact q⟩
    · rw [if_neg hf] at hg; cases hg
  case ktup xs =>
    obtain ⟨p, vs, e1, q1, q2⟩ := r2.ktup_view s
    by_cases hf : flatD x = true ∧ xs.all flatD = true
    · rw [if_pos hf] at hg; cases hg
      obtain ⟨i1, i2⟩ := inF_v hf.1 r1 hf.2 q2
      exact .inl ⟨p, vs, e1, .inr q1, flat_v hf.1 r1, i1, by rw [i2]; exact q⟩
    · rw [if_neg hf] at hg; cases hg
  case str z =>
    cases x <;> simp only at hg <;> try (cases hg; done)
    rename_i w
    by_cases hl : w.length = 1
    · rw [if_pos hl] at hg; cases hg
      rw [rep_str_iff] at r1 r2
      exact .inr (.inr ⟨_, z, by rw [r1.1, ← one_sign hl], r2.1, q⟩)
    · rw [if_neg hl] at hg; cases hg
  case dct mm ks xs => cases nd
  case dtt mm ks xs => cases nd
theorem inA_dict {x y : D} {r : Bool} {u v : V} {f1 f2 : List Addr} (nd : dictish y = true) (s : BLe B H) (r1 : Rep K cl B H x u f1) (r2 : Rep K cl B H y v f2) (hg : inD x y = some (.bl r)) : ∃ a o, v = .ref a ∧ DGet H a u o ∧ r = o.isSome := by
  cases y <;> simp only [dictish] at nd <;> try (cases nd; done)
  case dct mm ks xs =>
    simp only [inD, Option.map_eq_some_iff, D.bl.injEq] at hg
    obtain ⟨k, hk, rfl⟩ := hg
    obtain ⟨p, vs, fq, e1, q1, l, q2⟩ := r2.dct_view s
    exact ⟨p, _, e1, .inl ⟨_, k, q1, keyD_v hk r1, rfl⟩, (valV_some l q2 k).symm⟩
  case dtt mm ks xs =>
    simp only [inD] at hg
    cases x <;> simp only at hg <;> try (cases hg; done)
    simp only [Option.map_eq_some_iff, D.bl.injEq] at hg
    obtain ⟨k, hk, rfl⟩ := hg
    obtain ⟨p, vs, fq, e1, q1, l, q2⟩ := r2.dtt_view s
    obtain ⟨p2, ws, e2, q3, q4⟩ := r1.tup_view s
    rw [keysD_v hk q4] at q3
    exact ⟨p, _, e1, .inr ⟨_, k, p2, q1, e2, q3, rfl⟩, (valV_some l q2 k).symm⟩
theorem inD_bl {x y d : D} (h : inD x y = some d) : ∃ b, d = .bl b := by
  cases y <;> simp only [inD] at h <;> try (cases h; done)
  case lst mm xs =>
    split at h
    · cases h; exact ⟨_, rfl⟩
    · simp only [Option.map_eq_some_iff] at h; obtain ⟨_, _, e⟩ := h; exact ⟨_, e.symm⟩
  case tup xs =>
    split at h
    · cases h; exact ⟨_, rfl⟩
    · cases h
  case ktup xs =>
    split at h
    · cases h; exact ⟨_, rfl⟩
    · cases h
  case str z =>
    cases x <;> simp only at h <;> try (cases h; done)
    split at h
    · cases h; exact ⟨_, rfl⟩
    · cases h
  case dct mm ks xs => simp only [Option.map_eq_some_iff] at h; obtain ⟨_, _, e⟩ := h; exact ⟨_, e.symm⟩
  case dtt mm ks xs =>
    cases x <;> simp only at h <;> try (cases h; done)
    simp only [Option.map_eq_some_iff] at h; obtain ⟨_, _, e⟩ := h; exact ⟨_, e.symm⟩
theorem ninD_bl {x y d : D} (h : ninD x y = some d) : ∃ b, d = .bl (!b) ∧ inD x y = some (.bl b) := by
  unfold ninD at h
  split at h
  · rename_i b hb; cases h; exact ⟨b, rfl, hb⟩
  · cases h
theorem ev_in (hu : X.A.units + 65 < cLine) (ha : EvV X cl a ma) (hb : EvV X cl b mb) (hm : behindInMarks .In b = false := by with_unfolding_all rfl) : EvD X cl (.Compare a [.In] [b] pos) (mOp inD ma mb) := by
  obtain ⟨ta, pa, ra⟩ := ha
  obtain ⟨tb, pb, rb⟩ := hb
  refine ⟨_, PE.or (pe_cmpR (op_inA hu) pa pb hm) (pe_cmp (pc_din (by omega) pa pb) hm), fun σ A B H R d he Q q => ?_⟩
  obtain ⟨x, y, hx, hy, hg⟩ := mOp_some he
  obtain ⟨r, rfl⟩ := inD_bl hg
  cases hy' : dictish y with
  | false => exact .inl (two ra rb R hx hy fun u v B' H' f1 f2 n r1 r2 => inA_seq (neg := false) hy' n.sub r1 r2 hg (q _ B' H' [] n rep_bl Fresh.nil))
  | true =>
    refine .inr (two ra rb R hx hy fun u v B' H' f1 f2 n r1 r2 => ?_)
    obtain ⟨p, o, e1, g, hr⟩ := inA_dict hy' n.sub r1 r2 hg
    exact ⟨p, o, e1, g, by rw [← hr]; exact q _ B' H' [] n rep_bl Fresh.nil⟩
theorem ev_nin (hu : X.A.units + 65 < cLine) (ha : EvV X cl a ma) (hb : EvV X cl b mb) (hm : behindInMarks .NotIn b = false := by with_unfolding_all rfl) : EvD X cl (.Compare a [.NotIn] [b] pos) (mOp ninD ma mb) := by
  obtain ⟨ta, pa, ra⟩ := ha
  obtain ⟨tb, pb, rb⟩ := hb
  refine ⟨_, PE.or (pe_cmpR (op_ninA hu) pa pb hm) (pe_cmp (pc_dnotin (by omega) pa pb) hm), fun σ A B H R d he Q q => ?_⟩
  obtain ⟨x, y, hx, hy, hg⟩ := mOp_some he
  obtain ⟨r, rfl, hg2⟩ := ninD_bl hg
  cases hy' : dictish y with
  | false => exact .inl (two ra rb R hx hy fun u v B' H' f1 f2 n r1 r2 => inA_seq (neg := true) hy' n.sub r1 r2 hg2 (q _ B' H' [] n rep_bl Fresh.nil))
  | true =>
    refine .inr (two ra rb R hx hy fun u v B' H' f1 f2 n r1 r2 => ?_)
    obtain ⟨p, o, e1, g, hr⟩ := inA_dict hy' n.sub r1 r2 hg2
    exact ⟨p, o, e1, g, by rw [← hr]; exact q _ B' H' [] n rep_bl Fresh.nil⟩
theorem et_in (hu : X.A.units + 65 < cLine) (ha : EvV X cl a ma) (hb : EvV X cl b mb) (hm : behindInMarks .In b = false := by with_unfolding_all rfl) : EvT X cl (.Compare a [.In] [b] pos) (mT (mOp inD ma mb)) := by
  obtain ⟨ta, pa, ra⟩ := ha
  obtain ⟨tb, pb, rb⟩ := hb
  refine ⟨_, PT.or (pt_cmpR (op_inA hu) pa pb hm) (pt_cmp (pc_din (by omega) pa pb) hm), fun σ A B H R r he Q q => ?_⟩
  obtain ⟨x, y, hx, hy, hg⟩ := mOp_some (mT_some he)
  cases hy' : dictish y with
  | false => exact .inl (two ra rb R hx hy fun u v B' H' f1 f2 n r1 r2 => inA_seq (neg := false) hy' n.sub r1 r2 hg ⟨r, rfl, q B' H' n⟩)
  | true =>
    refine .inr (two ra rb R hx hy fun u v B' H' f1 f2 n r1 r2 => ?_)
    obtain ⟨p, o, e1, g, hr⟩ := inA_dict hy' n.sub r1 r2 hg
    exact ⟨p, o, e1, g, r, by rw [← hr], q B' H' n⟩
theorem et_nin (hu : X.A.units + 65 < cLine) (ha : EvV X cl a ma) (hb : EvV X cl b mb) (hm : behindInMarks .NotIn b = false := by with_unfolding_all rfl) : EvT X cl (.Compare a [.NotIn] [b] pos) (mT (mOp ninD ma mb)) := by
  obtain ⟨ta, pa, ra⟩ := ha
  obtain ⟨tb, pb, rb⟩ := hb
  refine ⟨_, PT.or (pt_cmpR (op_ninA hu) pa pb hm) (pt_cmp (pc_dnotin (by omega) pa pb) hm), fun σ A B H R r' he Q q => ?_⟩
  obtain ⟨x, y, hx, hy, hg⟩ := mOp_some (mT_some he)
  obtain ⟨r, er, hg2⟩ := ninD_bl hg
  cases er
  cases hy' : dictish y with
  | false => exact .inl (two ra rb R hx hy fun u v B' H' f1 f2 n r1 r2 => inA_seq (neg := true) hy' n.sub r1 r2 hg2 ⟨_, rfl, q B' H' n⟩)
  | true =>
    refine .inr (two ra rb R hx hy fun u v B' H' f1 f2 n r1 r2 => ?_)
    obtain ⟨p, o, e1, g, hr⟩ := inA_dict hy' n.sub r1 r2 hg2
    exact ⟨p, o, e1, g, _, by rw [← hr], q B' H' n⟩
/-! ### chains -/
def mCh (g g' : D → D → Option D) (ma mb mc : Ev → Option D) : Ev → Option D := fun A => (ma A).bind fun x => (mb A).bind fun y => match g x y with
  | some (.bl true) => (mc A).bind fun z => g' y z
  | some (.bl false) => some (.bl false)
  | _ => none
theorem ev_chain_core {r r' : R2} {g g' : D → D → Option D} {ta tb tc : TE} (hd : OpD X cl r g) (hd' : OpD X cl r' g')
    (ra : ∀ σ A B H, REnv X.K cl B H σ A → ∀ d, ma A = some d → ∀ Q : VK, (∀ v B' H' fp, New B H B' H' → Rep X.K cl B' H' d v fp → Q v H') → ta σ H Q)
    (rb : ∀ σ A B H, REnv X.K cl B H σ A → ∀ d, mb A = some d → ∀ Q : VK, (∀ v B' H' fp, New B H B' H' → Rep X.K cl B' H' d v fp → Q v H') → tb σ H Q)
    (rc : ∀ σ A B H, REnv X.K cl B H σ A → ∀ d, mc A = some d → ∀ Q : VK, (∀ v B' H' fp, New B H B' H' → Rep X.K cl B' H' d v fp → Q v H') → tc σ H Q)
    {σ : St} {A : Ev} {B H : Hp} (R : REnv X.K cl B H σ A) {d : D} (he : mCh g g' ma mb mc A = some d) (Q : VK) (q : ∀ v B' H' fp, New B H B' H' → Rep X.K cl B' H' d v fp → Fresh H B' fp → Q v H') : tChain r r' ta tb tc σ H Q := by
  unfold mCh at he
  simp only [Option.bind_eq_some_iff] at he
  obtain ⟨x, hx, y, hy, he⟩ := he
  refine two ra rb R hx hy fun u v B' H' f1 f2 n r1 r2 => ?_
  split at he
  · rename_i hg
    simp only [Option.bind_eq_some_iff] at he
    obtain ⟨z, hz, hg'⟩ := he
    refine hd B' H' x y _ u v f1 f2 n.sub r1 r2 hg _ fun w B2 H2 fp n2 rw f => ?_
    rw [rep_bl_iff] at rw
    refine ⟨true, rw.1, ?_⟩
    rw [if_pos rfl]
    have n3 := n.trans n2
    refine rc σ A B2 H2 (R.news n3) z hz _ fun w' B4 H4 f4 n4 r4 => ?_
    exact hd' B4 H4 y z d v w' _ _ n4.sub ((r2.news n2).news n4) r4 hg' Q fun w2 B5 H5 fp5 n5 r5 f5 => q w2 B5 H5 fp5 ((n3.trans n4).trans n5) r5 (fresh_trans (n3.trans n4) f5)
  · rename_i hg
    cases he
    refine hd B' H' x y _ u v f1 f2 n.sub r1 r2 hg _ fun w B2 H2 fp n2 rw f => ?_
    rw [rep_bl_iff] at rw
    refine ⟨false, rw.1, ?_⟩
    rw [if_neg Bool.false_ne_true]
    exact q _ B2 H2 [] (n.trans n2) rep_bl Fresh.nil
  · cases he
theorem ev_chain {op op' : CmpOp} {r r' : R2} {g g' : D → D → Option D} (ho : OpR X (compareOp op) r) (hd : OpD X cl r g) (ho' : OpR X (compareOp op') r') (hd' : OpD X cl r' g') (ha : EvV X cl a ma) (hb : EvV X cl b mb) (hc : EvV X cl c mc)
    (hm : lastMarks [op, op'] [b, c] = false := by with_unfolding_all rfl) : EvD X cl (.Compare a [op, op'] [b, c] pos) (mCh g g' ma mb mc) := by
  obtain ⟨ta, pa, ra⟩ := ha
  obtain ⟨tb, pb, rb⟩ := hb
  obtain ⟨tc, pc, rc⟩ := hc
  exact ⟨_, pe_chain ho ho' pa pb pc hm, fun σ A B H R d he Q q => ev_chain_core hd hd' ra rb rc R he Q q⟩
theorem et_chain {op op' : CmpOp} {r r' : R2} {g g' : D → D → Option D} (ho : OpR X (compareOp op) r) (hd : OpD X cl r g) (ho' : OpR X (compareOp op') r') (hd' : OpD X cl r' g') (ha : EvV X cl a ma) (hb : EvV X cl b mb) (hc : EvV X cl c mc)
    (hm : lastMarks [op, op'] [b, c] = false := by with_unfolding_all rfl) : EvT X cl (.Compare a [op, op'] [b, c] pos) (mT (mCh g g' ma mb mc)) := by
  obtain ⟨ta, pa, ra⟩ := ha
  obtain ⟨tb, pb, rb⟩ := hb
  obtain ⟨tc, pc, rc⟩ := hc
  refine ⟨_, pt_chain ho ho' pa pb pc hm, fun σ A B H R k he Q q => ev_chain_core hd hd' ra rb rc R (mT_some he) _ fun v B' H' fp n rp f => ?_⟩
  rw [rep_bl_iff] at rp
  exact ⟨k, rp.1, q B' H' n⟩
/-! ### calls of built-ins -/
def mCall (g : List D → Option D) (ms : Ev → Option (List D)) : Ev → Option D := fun A => (ms A).bind g
def CallD (X : Cx) (cl : Nat → Addr) (r : List V → Hp → VK → Prop) (g : List D → Option D) : Prop :=
  ∀ (B H : Hp) (ds : List D) (d : D) (vs : List V) (fp : List Addr), BLe B H → RepL X.K cl B H ds vs fp → g ds = some d → ∀ Q : VK, (∀ w B' H' fp, New B H B' H' → Rep X.K cl B' H' d w fp → Fresh H B' fp → Q w H') → r vs H Q
theorem ev_callB {id : String} {r : List V → Hp → VK → Prop} {g : List D → Option D} {x : Str} (hc : CallR X (.builtin id) r) (hd : CallD X cl r g) (hg : Gl X x) (hm : X.mg x = none) (hv : bootBuiltins x = some (.builtin id)) (ha : EvA X cl (e :: es) ms) (hn : x ≠ "__name__" := by decide) (hdb : (x == ("__debug__" : Str)) = false := by decide)
    (he : starEach (e :: es) X.env = (false, eval e X.env) :: starEach es X.env := by rfl) (hpl : (backTo pos (starEach es X.env)).any (·.1) = false := by rfl) : EvD X cl (.Call (.Name x p) (e :: es) [] pos) (mCall g ms) := by
  obtain ⟨t, pa, ra⟩ := ha
  refine ⟨_, pe_callB hc hg hm hv pa hn hdb he hpl, fun σ A B H R d he Q q => ?_⟩
  unfold mCall at he
  simp only [Option.bind_eq_some_iff] at he
  obtain ⟨ds, h1, h2⟩ := he
  exact ra σ A B H R ds h1 _ fun vs B1 H1 f1 n1 rp => hd B1 H1 ds d vs f1 n1.sub rp h2 Q fun w B2 H2 f2 n2 r2 f => q w B2 H2 f2 (n1.trans n2) r2 (fresh_trans n1 f)
theorem ev_callT {T : String} {r : List V → Hp → VK → Prop} {g : List D → Option D} {x : Str} (hc : CallR X (.type T) r) (hd : CallD X cl r g) (hg : Gl X x) (hm : X.mg x = none) (hv : bootBuiltins x = some (.type T)) (ha : EvA X cl (e :: es) ms) (hn : x ≠ "__name__" := by decide) (hdb : (x == ("__debug__" : Str)) = false := by decide)
    (he : starEach (e :: es) X.env = (false, eval e X.env) :: starEach es X.env := by rfl) (hpl : (backTo pos (starEach es X.env)).any (·.1) = false := by rfl) : EvD X cl (.Call (.Name x p) (e :: es) [] pos) (mCall g ms) := by
  obtain ⟨t, pa, ra⟩ := ha
  refine ⟨_, pe_callTy hc hg hm hv pa hn hdb he hpl, fun σ A B H R d he Q q => ?_⟩
  unfold mCall at he
  simp only [Option.bind_eq_some_iff] at he
  obtain ⟨ds, h1, h2⟩ := he
  exact ra σ A B H R ds h1 _ fun vs B1 H1 f1 n1 rp => hd B1 H1 ds d vs f1 n1.sub rp h2 Q fun w B2 H2 f2 n2 r2 f => q w B2 H2 f2 (n1.trans n2) r2 (fresh_trans n1 f)
theorem repL_one {d : D} {vs : List V} {fp : List Addr} (h : RepL K cl B H [d] vs fp) : ∃ v, vs = [v] ∧ Rep K cl B H d v fp := by
  simp only [RepL] at h
  obtain ⟨v, vr, f1, f2, e1, e2, r, e3, e4⟩ := h
  subst e1 e2 e3 e4
  exact ⟨v, rfl, by simpa using r⟩
theorem repL_two {d d' : D} {vs : List V} {fp : List Addr} (h : RepL K cl B H [d, d'] vs fp) : ∃ v w f1 f2, vs = [v, w] ∧ Rep K cl B H d v f1 ∧ Rep K cl B H d' w f2 ∧ fp = f1 ++ f2 := by
  simp only [RepL] at h
  obtain ⟨v, vr, f1, f2, e1, e2, r, v', vr', f1', f2', e3, e4, r', e5, e6⟩ := h
  subst e1 e2 e3 e4 e5 e6
  exact ⟨v, v', f1, f1', rfl, r, r', by simp⟩
/-! len -/
def lenD : List D → Option D
  | [.lst _ xs] => some (.int xs.length)
  | [.tup xs] => some (.int xs.length)
  | [.ktup xs] => some (.int xs.length)
  | [.scr ns] => some (.int ns.length)
  | [.str s] => if s.length ≤ sizeLine then some (.int s.length) else none
  | [.dct _ ks _] => some (.int ks.length)
  | _ => none
abbrev rLenA (X : Cx) : List V → Hp → VK → Prop := fun xs H Q => (∃ p ys, xs = [.ref p] ∧ (SqL X.K H p ys ∨ SqT X.K H p ys) ∧ Q (.int ys.length) H) ∨ (∃ z, xs = [.str z] ∧ z.length ≤ sizeLine ∧ Q (.int z.length) H) ∨ (∃ p kvs, xs = [.ref p] ∧ Rd H p (.dK kvs) ∧ Q (.int kvs.length) H)
theorem call_lenDk : CallR X (.builtin "len") (fun xs H Q => ∃ p kvs, xs = [.ref p] ∧ Rd H p (.dK kvs) ∧ Q (.int kvs.length) H) := by
  intro pins s σ H xs us Q I r h
  obtain ⟨p, kvs, rfl, hd, q⟩ := h
  obtain ⟨u, rfl, ru⟩ := vals1 r
  cases ru
  exact d_len I hd fun t s' I' => ⟨.int kvs.length, H, I', ⟨t, rfl⟩, q⟩
theorem call_lenA : CallR X (.builtin "len") (rLenA X) := call_len_seq.or (call_len_str.or call_lenDk)
theorem lenD_ok : CallD X cl (rLenA X) lenD := by
  intro B H ds d vs fp s r0 hg Q q
  unfold lenD at hg
  split at hg <;> first | (cases hg; done) | skip
  · cases hg; obtain ⟨v, e0, r⟩ := repL_one r0; subst e0
    obtain ⟨a, ws, fq, e1, q1, q2, _⟩ := r.lst_view s
    exact .inl ⟨a, ws, by rw [e1], .inl (.of q1), by rw [← q2.length]; exact q _ B H [] (New.refl s) rep_int Fresh.nil⟩
  · cases hg; obtain ⟨v, e0, r⟩ := repL_one r0; subst e0
    obtain ⟨a, ws, e1, q1, q2⟩ := r.tup_view s
    exact .inl ⟨a, ws, by rw [e1], .inr (.of q1), by rw [← q2.length]; exact q _ B H [] (New.refl s) rep_int Fresh.nil⟩
  · cases hg; obtain ⟨v, e0, r⟩ := repL_one r0; subst e0
    obtain ⟨a, ws, e1, q1, q2⟩ := r.ktup_view s
    exact .inl ⟨a, ws, by rw [e1], .inr q1, by rw [← q2.length]; exact q _ B H [] (New.refl s) rep_int Fresh.nil⟩
  · cases hg; obtain ⟨v, e0, r⟩ := repL_one r0; subst e0
    simp only [Rep] at r
    obtain ⟨a, e1, q1, _⟩ := r
    exact .inl ⟨a, _, by rw [e1], .inl (s.sqL q1), by rw [List.length_map]; exact q _ B H [] (New.refl s) rep_int Fresh.nil⟩
  · split at hg
    · cases hg; obtain ⟨v, e0, r⟩ := repL_one r0; subst e0
      rw [rep_str_iff] at r
      rename_i hl
      exact .inr (.inl ⟨_, by rw [r.1], hl, q _ B H [] (New.refl s) rep_int Fresh.nil⟩)
    · cases hg
  · cases hg; obtain ⟨v, e0, r⟩ := repL_one r0; subst e0
    obtain ⟨a, ws, fq, e1, q1, l, q2⟩ := r.dct_view s
    exact .inr (.inr ⟨a, _, by rw [e1], q1, by rw [List.length_zip, ← q2.length, ← l, Nat.min_self]; exact q _ B H [] (New.refl s) rep_int Fresh.nil⟩)
/-! abs, int, min, max -/
def absD : List D → Option D
  | [.int i] => some (.int (if i < 0 then -i else i))
  | _ => none
theorem absD_ok : CallD X cl (fun xs H Q => ∃ i, xs = [.int i] ∧ Q (.int (if i < 0 then -i else i)) H) absD := by
  intro B H ds d vs fp s r0 hg Q q
  unfold absD at hg
  split at hg <;> first | (cases hg; done) | skip
  cases hg; obtain ⟨v, e0, r⟩ := repL_one r0; subst e0
  rw [rep_int_iff] at r
  exact ⟨_, by rw [r.1], q _ B H [] (New.refl s) rep_int Fresh.nil⟩
def intD : List D → Option D
  | [.int i] => some (.int i)
  | [.bl b] => some (.int (if b then 1 else 0))
  | _ => none
theorem intD_ok : CallD X cl (fun xs H Q => (∃ i, xs = [.int i] ∧ Q (.int i) H) ∨ ∃ k, xs = [.bl k] ∧ Q (.int (if k then 1 else 0)) H) intD := by
  intro B H ds d vs fp s r0 hg Q q
  unfold intD at hg
  split at hg <;> first | (cases hg; done) | skip
  · cases hg; obtain ⟨v, e0, r⟩ := repL_one r0; subst e0
    rw [rep_int_iff] at r
    exact .inl ⟨_, by rw [r.1], q _ B H [] (New.refl s) rep_int Fresh.nil⟩
  · cases hg; obtain ⟨v, e0, r⟩ := repL_one r0; subst e0
    rw [rep_bl_iff] at r
    exact .inr ⟨_, by rw [r.1], q _ B H [] (New.refl s) rep_int Fresh.nil⟩
def intsD : List D → Option (List Int)
  | [] => some []
  | .int i :: r => (intsD r).map (i :: ·)
  | _ => none
theorem intsD_v : ∀ {xs : List D} {ns : List Int} {vs : List V} {fp : List Addr}, intsD xs = some ns → RepL K cl B H xs vs fp → vs = ns.map V.int
  | [], _, _, _, h, r => by simp only [intsD] at h; cases h; simp only [RepL] at r; rw [r.1]; rfl
  | d :: ds, _, _, _, h, r => by
    cases d <;> simp only [intsD] at h <;> try (cases h; done)
    simp only [Option.map_eq_some_iff] at h
    obtain ⟨ns, h, rfl⟩ := h
    simp only [RepL] at r
    obtain ⟨v, vr, f1, f2, e1, _, r1, r2⟩ := r
    rw [rep_int_iff] at r1
    rw [e1, r1.1, intsD_v h r2]; rfl
theorem intsD_map (ns : List Int) : intsD (ns.map D.int) = some ns := by
  induction ns with
  | nil => rfl
  | cons n ns ih => simp only [List.map_cons, intsD, ih, Option.map_some]
def maxL : List Int → Option Int
  | [] => none
  | n :: ns => some (ns.foldl max n)
def minL : List Int → Option Int
  | [] => none
  | n :: ns => some (ns.foldl min n)
def maxD : List D → Option D
  | [.int i, .int j] => some (.int (if j > i then j else i))
  | [.lst _ xs] => (intsD xs).bind fun ns => (maxL ns).map .int
  | _ => none
def minD : List D → Option D
  | [.int i, .int j] => some (.int (if j < i then j else i))
  | [.lst _ xs] => (intsD xs).bind fun ns => (minL ns).map .int
  | _ => none
theorem foldl_max : ∀ (ns : List Int) (n : Int), ns.foldl max n ∈ n :: ns ∧ ∀ y ∈ n :: ns, y ≤ ns.foldl max n
  | [], n => by simp
  | k :: ns, n => by
    obtain ⟨h1, h2⟩ := foldl_max ns (max n k)
    rw [List.foldl_cons]
    refine ⟨?_, fun y hy => ?_⟩
    · rcases List.mem_cons.mp h1 with e | e
      · rw [e]; rcases Int.le_total n k with q | q
        · rw [Int.max_eq_right q]; simp
        · rw [Int.max_eq_left q]; simp
      · simp [e]
    · rcases List.mem_cons.mp hy with rfl | hy
      · exact Int.le_trans (Int.le_max_left _ _) (h2 _ List.mem_cons_self)
      · rcases List.mem_cons.mp hy with rfl | hy
        · exact Int.le_trans (Int.le_max_right _ _) (h2 _ List.mem_cons_self)
        · exact h2 y (List.mem_cons_of_mem _ hy)
theorem foldl_min : ∀ (ns : List Int) (n : Int), ns.foldl min n ∈ n :: ns ∧ ∀ y ∈ n :: ns, ns.foldl min n ≤ y
  | [], n => by simp
  | k :: ns, n => by
    obtain ⟨h1, h2⟩ := foldl_min ns (min n k)
    rw [List.foldl_cons]
    refine ⟨?_, fun y hy => ?_⟩
    · rcases List.mem_cons.mp h1 with e | e
      · rw [e]; rcases Int.le_total n k with q | q
        · rw [Int.min_eq_left q]; simp
        · rw [Int.min_eq_right q]; simp
      · simp [e]
    · rcases List.mem_cons.mp hy with rfl | hy
      · exact Int.le_trans (h2 _ List.mem_cons_self) (Int.min_le_left _ _)
      · rcases List.mem_cons.mp hy with rfl | hy
        · exact Int.le_trans (h2 _ List.mem_cons_self) (Int.min_le_right _ _)
        · exact h2 y (List.mem_cons_of_mem _ hy)
theorem maxD_ok : CallD X cl (fun xs H Q => (∃ i j, xs = [.int i, .int j] ∧ Q (.int (if j > i then j else i)) H) ∨ rMax X.K xs H Q) maxD := by
  intro B H ds d vs fp s r0 hg Q q
  unfold maxD at hg
  split at hg <;> first | (cases hg; done) | skip
  · cases hg; obtain ⟨v, w, f1, f2, e0, r1, r2, _⟩ := repL_two r0; subst e0
    rw [rep_int_iff] at r1 r2
    exact .inl ⟨_, _, by rw [r1.1, r2.1], q _ B H [] (New.refl s) rep_int Fresh.nil⟩
  · simp only [Option.bind_eq_some_iff, Option.map_eq_some_iff] at hg
    obtain ⟨ns, h1, k, h2, rfl⟩ := hg
    obtain ⟨v, e0, r⟩ := repL_one r0; subst e0
    obtain ⟨a, ws, fq, e1, q1, q2, _⟩ := r.lst_view s
    rw [intsD_v h1 q2] at q1
    cases ns with
    | nil => cases h2
    | cons n ns =>
      cases h2
      refine .inr ⟨a, n :: ns, by rw [e1], .of q1, by simp, fun k h3 h4 => ?_⟩
      obtain ⟨g1, g2⟩ := foldl_max ns n
      have : k = ns.foldl max n := Int.le_antisymm (g2 _ h3) (h4 _ g1)
      rw [this]
      exact q _ B H [] (New.refl s) rep_int Fresh.nil
theorem minD_ok : CallD X cl (fun xs H Q => (∃ i j, xs = [.int i, .int j] ∧ Q (.int (if j < i then j else i)) H) ∨ rMin X.K xs H Q) minD := by
  intro B H ds d vs fp s r0 hg Q q
  unfold minD at hg
  split at hg <;> first | (cases hg; done) | skip
  · cases hg; obtain ⟨v, w, f1, f2, e0, r1, r2, _⟩ := repL_two r0; subst e0
    rw [rep_int_iff] at r1 r2
    exact .inl ⟨_, _, by rw [r1.1, r2.1], q _ B H [] (New.refl s) rep_int Fresh.nil⟩
  · simp only [Option.bind_eq_some_iff, Option.map_eq_some_iff] at hg
    obtain ⟨ns, h1, k, h2, rfl⟩ := hg
    obtain ⟨v, e0, r⟩ := repL_one r0; subst e0
    obtain ⟨a, ws, fq, e1, q1, q2, _⟩ := r.lst_view s
    rw [intsD_v h1 q2] at q1
    cases ns with
    | nil => cases h2
    | cons n ns =>
      cases h2
      refine .inr ⟨a, n :: ns, by rw [e1], .of q1, by simp, fun k h3 h4 => ?_⟩
      obtain ⟨g1, g2⟩ := foldl_min ns n
      have : k = ns.foldl min n := Int.le_antisymm (h4 _ g1) (g2 _ h3)
      rw [this]
      exact q _ B H [] (New.refl s) rep_int Fresh.nil
/-! list(..), dict(..), tuple(..) -/
def lstD : List D → Option D
  | [.lst _ xs] => if D.plainL xs = true then some (.lst true xs) else none
  | [.tup xs] => if D.plainL xs = true then some (.lst true xs) else none
  | [.ktup xs] => some (.lst true xs)
  | [.dct _ ks _] => some (.lst true (ks.map fun k => match k with | .inl i => .int i | .inr s => .str s))
  | _ => none
theorem repL_keys : ∀ ks : List Key, RepL K cl B H (ks.map fun k => match k with | .inl i => D.int i | .inr s => D.str s) (ks.map kV) []
  | [] => repL_nil
  | .inl i :: ks => repL_cons (g := []) (f := []) (rep_int (i := i)) (repL_keys ks)
  | .inr i :: ks => repL_cons (g := []) (f := []) (rep_str (i := i)) (repL_keys ks)
abbrev rListA (X : Cx) : List V → Hp → VK → Prop := fun xs H Q => (∃ p ys, xs = [.ref p] ∧ (SqL X.K H p ys ∨ SqT X.K H p ys) ∧ ∀ l, H l = none → Q (.ref l) (upd H l (.lst ys))) ∨ (∃ (a : Addr) (kvs : List (Key × V)), xs = [.ref a] ∧ Rd H a (.dK kvs) ∧ ∀ p, H p = none → Q (.ref p) (upd H p (.lst (kvs.map fun kv => kV kv.1))))
theorem call_listA (hc : X.calm = true) : CallR X (.type "list") (rListA X) := call_list_of.or (call_listD hc)
theorem new_list_q {xs : List D} {ws : List V} {Q : VK} (s : BLe B H) (r : RepL K cl B H xs ws []) (q : ∀ w B' H' fp, New B H B' H' → Rep K cl B' H' (.lst true xs) w fp → Fresh H B' fp → Q w H') : ∀ l, H l = none → Q (.ref l) (upd H l (.lst ws)) := fun l hl => by
  have n := New.own (o := .lst ws) s hl
  exact q _ B _ [l] n (rep_newList (B' := B) n r) (fresh_one s hl)
theorem map_zip_fst {α β : Type} : ∀ {ks : List α} {vs : List β}, ks.length = vs.length → (ks.zip vs).map (·.1) = ks
  | [], [], _ => rfl
  | k :: ks, v :: vs, h => by simp only [List.zip_cons_cons, List.map_cons, map_zip_fst (ks := ks) (vs := vs) (by simpa using h)]
theorem lstD_ok : CallD X cl (rListA X) lstD := by
  intro B H ds d vs fp s r0 hg Q q
  unfold lstD at hg
  split at hg <;> first | (cases hg; done) | skip
  · split at hg
    · rename_i hp
      cases hg; obtain ⟨v, e0, r⟩ := repL_one r0; subst e0
      obtain ⟨a, ws, fq, e1, q1, q2, _⟩ := r.lst_view s
      exact .inl ⟨a, ws, by rw [e1], .inl (.of q1), new_list_q s (q2.pl hp) q⟩
    · cases hg
  · split at hg
    · rename_i hp
      cases hg; obtain ⟨v, e0, r⟩ := repL_one r0; subst e0
      obtain ⟨a, ws, e1, q1, q2⟩ := r.tup_view s
      exact .inl ⟨a, ws, by rw [e1], .inr (.of q1), new_list_q s (q2.pl hp) q⟩
    · cases hg
  · cases hg; obtain ⟨v, e0, r⟩ := repL_one r0; subst e0
    obtain ⟨a, ws, e1, q1, q2⟩ := r.ktup_view s
    exact .inl ⟨a, ws, by rw [e1], .inr q1, new_list_q s q2 q⟩
  · cases hg; obtain ⟨v, e0, r⟩ := repL_one r0; subst e0
    obtain ⟨a, ws, fq, e1, q1, l, q2⟩ := r.dct_view s
    refine .inr ⟨a, _, by rw [e1], q1, ?_⟩
    have key : ∀ (ks : List Key), ks.length = ws.length → (ks.zip ws).map (fun kv => kV kv.1) = ks.map kV := fun ks hl => by
      have := congrArg (List.map kV) (map_zip_fst hl)
      rw [List.map_map] at this
      exact this
    rw [key _ (by rw [l, q2.length])]
    exact new_list_q s (repL_keys _) q
end
end VI
set_option Elab.async false
set_option linter.all false
set_option maxRecDepth 100000
set_option autoImplicit false
namespace VI
open PySem L2
/-- what stays in mind through a def's run: the heap and the shared part at its entry, what it was lent, the lent parameters, the dicts that it walks -/
structure GS where
  H0 : Hp
  B0 : Hp
  S0 : List Addr
  kp : List (Nat × V)
  lk : List (Addr × Obj × HO)
structure Good (K : PySem.W.Frag) (cl : Nat → Addr) (G : GS) (B H : Hp) (σ : St) (A : Ev) (F : Nat → List Addr) : Prop where
  sub : BLe B H
  len : σ.length = A.length
  at_ : ∀ (i : Nat) (d : D), A[i]? = some (some d) → ∃ v, σ[i]? = some (some v) ∧ Rep K cl B H d v (F i)
  emp : ∀ i, (∀ d, A[i]? ≠ some (some d)) → F i = []
  nd : ∀ i, (F i).Nodup
  dis : ∀ i j, i ≠ j → ∀ a ∈ F i, a ∉ F j
  nb : ∀ i, ∀ a ∈ F i, B a = none
  le0 : BEx G.B0 B
  fr : ∀ a o, G.H0 a = some o → a ∉ G.S0 → H a = some o ∨ ∃ p ∈ G.lk, p.1 = a ∧ p.2.2 = o
  own : ∀ i, ∀ a ∈ F i, a ∈ G.S0 ∨ G.H0 a = none
  bnew : ∀ a, B a ≠ none → G.B0 a ≠ none ∨ fot G.H0 a ∨ a ∈ G.S0
  keep : ∀ p ∈ G.kp, σ[p.1]? = some (some p.2)
  lkd : ∀ p ∈ G.lk, H p.1 = some (.frz p.2.1 p.2.2)
section
variable {K : PySem.W.Frag} {cl : Nat → Addr} {G : GS} {B H B' H' : Hp} {σ : St} {A : Ev} {F : Nat → List Addr} {d : D} {v : V} {fp : List Addr}
theorem Good.renv (g : Good K cl G B H σ A F) : REnv K cl B H σ A := ⟨g.sub, fun i d e => let ⟨v, e1, r⟩ := g.at_ i d e; ⟨v, _, e1, r⟩⟩
theorem Good.stand (g : Good K cl G B H σ A F) (i : Nat) : ∀ a ∈ F i, ∃ o, H a = some o := fun a z => by
  by_cases h : ∃ d, A[i]? = some (some d)
  · obtain ⟨d, h⟩ := h
    obtain ⟨v, _, r⟩ := g.at_ i d h
    exact r.stand a z
  · rw [g.emp i fun d e => h ⟨d, e⟩] at z; cases z
theorem Good.stand' (g : Good K cl G B H σ A F) (i : Nat) : ∀ a ∈ F i, ∃ o, H a = some o ∧ ownable o = true := fun a z => by
  by_cases h : ∃ d, A[i]? = some (some d)
  · obtain ⟨d, h⟩ := h
    obtain ⟨v, _, r⟩ := g.at_ i d h
    exact r.stand' a z
  · rw [g.emp i fun d e => h ⟨d, e⟩] at z; cases z
theorem Good.free (g : Good K cl G B H σ A F) {a : Addr} (h : H a = none) : a ∈ G.S0 ∨ G.H0 a = none := by
  by_cases hs : a ∈ G.S0
  · exact .inl hs
  · refine .inr ?_
    cases q : G.H0 a with
    | none => rfl
    | some o =>
      rcases g.fr a o q hs with e | ⟨p, hp, e1, _⟩
      · rw [h] at e; cases e
      · have := g.lkd p hp; rw [e1, h] at this; cases this
theorem Good.freeT (g : Good K cl G B H σ A F) {a : Addr} (h : fot H a) : fot G.H0 a ∨ a ∈ G.S0 := by
  by_cases hs : a ∈ G.S0
  · exact .inr hs
  · refine .inl ?_
    cases q : G.H0 a with
    | none => exact .inl q
    | some o =>
      rcases g.fr a o q hs with e | ⟨p, hp, e1, _⟩
      · rcases h with h | ⟨vs, h⟩
        · rw [h] at e; cases e
        · rw [h] at e; cases e; exact .inr ⟨vs, q⟩
      · have l := g.lkd p hp
        rw [e1] at l
        rcases h with h | ⟨vs, h⟩
        · rw [h] at l; cases l
        · rw [h] at l; cases l
theorem Good.news (n : New B H B' H') (g : Good K cl G B H σ A F) : Good K cl G B' H' σ A F where
  sub := n.sub
  len := g.len
  at_ := fun i d e => let ⟨v, e1, r⟩ := g.at_ i d e; ⟨v, e1, r.news n⟩
  emp := g.emp
  nd := g.nd
  dis := g.dis
  nb := fun i a z => by
    cases q : B' a with
    | none => rfl
    | some u =>
      rcases n.nb a (by rw [q]; exact fun e => nomatch e) with h | h
      · exact absurd (g.nb i a z) h
      · obtain ⟨o, e, w⟩ := g.stand' i a z; exact (fot_own h e w).elim
  le0 := g.le0.trans n.le
  fr := fun a o e hs => (g.fr a o e hs).imp (n.ex a o) id
  own := g.own
  bnew := fun a e => by
    rcases n.nb a e with h | h
    · exact g.bnew a h
    · exact .inr (g.freeT h)
  keep := g.keep
  lkd := fun p hp => n.ex _ _ (g.lkd p hp)
/-- a tree that is held on the way: its owned nodes -/
structure Own (G : GS) (B : Hp) (F : Nat → List Addr) (fp : List Addr) : Prop where
  nd : fp.Nodup
  nb : ∀ a ∈ fp, B a = none
  own : ∀ a ∈ fp, a ∈ G.S0 ∨ G.H0 a = none
  dis : ∀ i, ∀ a ∈ fp, a ∉ F i
theorem Own.nil : Own G B F [] := ⟨List.nodup_nil, (fun _ z => nomatch z), (fun _ z => nomatch z), fun _ _ z => nomatch z⟩
theorem Good.ownF (g : Good K cl G B H σ A F) (f : Fresh H B' fp) : Own G B' F fp := ⟨f.nd, f.nb, fun a z => g.free (f.nh a z), fun i a z w => by
  obtain ⟨o, e⟩ := g.stand i a w; rw [f.nh a z] at e; cases e⟩
def setF (F : Nat → List Addr) (i : Nat) (fp : List Addr) : Nat → List Addr := fun j => if j = i then fp else F j
theorem setF_same {i : Nat} : setF F i fp i = fp := by unfold setF; rw [if_pos rfl]
theorem setF_ne {i j : Nat} (h : j ≠ i) : setF F i fp j = F j := by unfold setF; rw [if_neg h]
/-- a name gets a tree -/
theorem Good.set {i : Nat} (g : Good K cl G B H σ A F) (hi : i < A.length) (hk : ∀ p ∈ G.kp, p.1 ≠ i) (r : Rep K cl B H d v fp) (w : Own G B F fp) : Good K cl G B H (σ.set i (some v)) (A.set i (some d)) (setF F i fp) where
  sub := g.sub
  len := by rw [List.length_set, List.length_set]; exact g.len
  at_ := fun j d' e => by
    by_cases h : j = i
    · subst h
      rw [List.getElem?_set_self hi] at e
      cases e
      rw [setF_same]
      exact ⟨v, List.getElem?_set_self (by rw [g.len]; exact hi), r⟩
    · rw [List.getElem?_set_ne (Ne.symm h)] at e
      rw [setF_ne h, List.getElem?_set_ne (Ne.symm h)]
      exact g.at_ j d' e
  emp := fun j e => by
    by_cases h : j = i
    · subst h; exact absurd (List.getElem?_set_self hi) (e d)
    · rw [setF_ne h]; exact g.emp j fun d' q => e d' (by rw [List.getElem?_set_ne (Ne.symm h)]; exact q)
  nd := fun j => by by_cases h : j = i
                    · subst h; rw [setF_same]; exact w.nd
                    · rw [setF_ne h]; exact g.nd j
  dis := fun j k hjk a z y => by
    by_cases h : j = i
    · subst h; rw [setF_same] at z; rw [setF_ne (Ne.symm hjk)] at y; exact w.dis k a z y
    · rw [setF_ne h] at z
      by_cases h2 : k = i
      · subst h2; rw [setF_same] at y; exact w.dis j a y z
      · rw [setF_ne h2] at y; exact g.dis j k hjk a z y
  nb := fun j a z => by by_cases h : j = i
                        · subst h; rw [setF_same] at z; exact w.nb a z
                        · rw [setF_ne h] at z; exact g.nb j a z
  le0 := g.le0
  fr := g.fr
  own := fun j a z => by by_cases h : j = i
                         · subst h; rw [setF_same] at z; exact w.own a z
                         · rw [setF_ne h] at z; exact g.own j a z
  bnew := g.bnew
  keep := fun p hp => by rw [List.getElem?_set_ne (Ne.symm (hk p hp))]; exact g.keep p hp
  lkd := g.lkd
/-- a name is forgotten -/
theorem Good.kill {i : Nat} (g : Good K cl G B H σ A F) : Good K cl G B H σ (A.set i none) (setF F i []) where
  sub := g.sub
  len := by rw [List.length_set]; exact g.len
  at_ := fun j d' e => by
    by_cases h : j = i
    · subst h
      by_cases hi : j < A.length
      · rw [List.getElem?_set_self hi] at e; cases e
      · rw [List.set_eq_of_length_le (by omega)] at e
        rw [List.getElem?_eq_none (by omega)] at e; cases e
    · rw [List.getElem?_set_ne (Ne.symm h)] at e
      rw [setF_ne h]
      exact g.at_ j d' e
  emp := fun j e => by
    by_cases h : j = i
    · subst h; exact setF_same
    · rw [setF_ne h]; exact g.emp j fun d' q => e d' (by rw [List.getElem?_set_ne (Ne.symm h)]; exact q)
  nd := fun j => by by_cases h : j = i
                    · subst h; rw [setF_same]; exact List.nodup_nil
                    · rw [setF_ne h]; exact g.nd j
  dis := fun j k hjk a z y => by
    by_cases h : j = i
    · subst h; rw [setF_same] at z; cases z
    · rw [setF_ne h] at z
      by_cases h2 : k = i
      · subst h2; rw [setF_same] at y; cases y
      · rw [setF_ne h2] at y; exact g.dis j k hjk a z y
  nb := fun j a z => by by_cases h : j = i
                        · subst h; rw [setF_same] at z; cases z
                        · rw [setF_ne h] at z; exact g.nb j a z
  le0 := g.le0
  fr := g.fr
  own := fun j a z => by by_cases h : j = i
                         · subst h; rw [setF_same] at z; cases z
                         · rw [setF_ne h] at z; exact g.own j a z
  bnew := g.bnew
  keep := g.keep
  lkd := g.lkd
/-- the shared part with these nodes -/
def addB (B H : Hp) (fp : List Addr) : Hp := fun a => if a ∈ fp then H a else B a
theorem addB_in {a : Addr} (h : a ∈ fp) : addB B H fp a = H a := by unfold addB; rw [if_pos h]
theorem addB_out {a : Addr} (h : a ∉ fp) : addB B H fp a = B a := by unfold addB; rw [if_neg h]
theorem addB_le (nb : ∀ a ∈ fp, B a = none) : BEx B (addB B H fp) := fun a u e => by
  rw [addB_out fun z => by rw [nb a z] at e; cases e]; exact e
theorem addB_sub (s : BLe B H) : BLe (addB B H fp) H where
  rd := fun a u r => by
    by_cases h : a ∈ fp
    · rcases r with r | ⟨o, r⟩ <;> rw [addB_in h] at r
      · exact .inl r
      · exact .inr ⟨o, r⟩
    · exact s.rd a u (by rcases r with r | ⟨o, r⟩ <;> rw [addB_out h] at r; exact .inl r; exact .inr ⟨o, r⟩)
  ins := fun a C dx fs r => by
    by_cases h : a ∈ fp
    · rw [addB_in h] at r; exact r
    · rw [addB_out h] at r; exact s.ins a C dx fs r
  lst := fun a vs r => by
    by_cases h : a ∈ fp
    · rw [addB_in h] at r; exact r
    · rw [addB_out h] at r; exact s.lst a vs r
  tup := fun a vs r => by
    by_cases h : a ∈ fp
    · rw [addB_in h] at r; exact r
    · rw [addB_out h] at r; exact s.tup a vs r
/-- a held tree is frozen -/
theorem Good.frz (g : Good K cl G B H σ A F) (r : Rep K cl B H d v fp) (w : Own G B F fp) : Good K cl G (addB B H fp) H σ A F ∧ Rep K cl (addB B H fp) H d.frz v [] := by
  have le := addB_le (H := H) w.nb
  refine ⟨⟨addB_sub g.sub, g.len, fun i d e => ?_, g.emp, g.nd, g.dis, fun i a z => ?_, g.le0.trans le, g.fr, g.own, fun a e => ?_, g.keep, g.lkd⟩, r.frz le.le fun a z => addB_in z⟩
  · obtain ⟨u, e1, q⟩ := g.at_ i d e
    exact ⟨u, e1, q.mono le.le fun _ _ => rfl⟩
  · rw [addB_out fun y => w.dis i a y z]; exact g.nb i a z
  · by_cases h : a ∈ fp
    · rcases w.own a h with q | q
      · exact .inr (.inr q)
      · exact .inr (.inl (.inl q))
    · rw [addB_out h] at e; exact g.bnew a e
end
section
variable {K : PySem.W.Frag} {cl : Nat → Addr} {G : GS} {B H B' H' : Hp} {σ σ' : St} {A A' : Ev} {F F' : Nat → List Addr}
/-- from here on: what is shared now stays shared -/
theorem Good.reB (g : Good K cl G B H σ A F) : Good K cl { G with B0 := B } B H σ A F := ⟨g.sub, g.len, g.at_, g.emp, g.nd, g.dis, g.nb, BEx.refl B, g.fr, g.own, (fun a e => .inl e), g.keep, g.lkd⟩
theorem BLe.some_of (b : BLe B B') {a : Addr} (h : B a ≠ none) : B' a ≠ none := by
  cases q : B a with
  | none => exact absurd q h
  | some u =>
    rcases b.rd a u (.inl q) with r | ⟨o, r⟩ <;> rw [r] <;> exact fun e => nomatch e
theorem Good.unB (g0 : Good K cl G B H σ A F) (g : Good K cl { G with B0 := B } B' H' σ' A' F') : Good K cl G B' H' σ' A' F' := ⟨g.sub, g.len, g.at_, g.emp, g.nd, g.dis, g.nb, g0.le0.trans g.le0, g.fr, g.own, (fun a e => (g.bnew a e).elim (g0.bnew a) fun h => .inr h), g.keep, g.lkd⟩
end
inductive SOut where
  | nx (A : Ev) | bk (A : Ev) | ct (A : Ev) | rt (d : D) (A : Ev)
abbrev SM := Ev → Option SOut
section
variable (K : PySem.W.Frag) (cl : Nat → Addr) (G : GS) (Dn : Ends)
def EndsOk : SOut → Prop
  | .nx A => ∀ σ B H F, Good K cl G B H σ A F → Dn.nx σ H
  | .bk A => ∀ σ B H F, Good K cl G B H σ A F → Dn.bk σ H
  | .ct A => ∀ σ B H F, Good K cl G B H σ A F → Dn.ct σ H
  | .rt d A => ∀ σ B H F v fp, Good K cl G B H σ A F → Rep K cl B H d v fp → Own G B F fp → Dn.rt v H
end
section
variable (X : Cx) (cl : Nat → Addr) (mu : List Nat)
def VS (st : Stmt) (m : SM) : Prop := ∃ t : TS, PS X st t ∧ ∀ (G : GS) σ A B H F, (∀ p ∈ G.kp, p.1 ∈ mu) → Good X.K cl G B H σ A F → ∀ out, m A = some out → ∀ Dn, EndsOk X.K cl G Dn out → t Dn σ H
def VSs (st : List Stmt) (m : SM) : Prop := ∃ t : TS, PSs X st t ∧ ∀ (G : GS) σ A B H F, (∀ p ∈ G.kp, p.1 ∈ mu) → Good X.K cl G B H σ A F → ∀ out, m A = some out → ∀ Dn, EndsOk X.K cl G Dn out → t Dn σ H
/-- a target: it takes a shared tree -/
def VG (tg : Expr) (g : D → Ev → Option Ev) : Prop := ∃ t : TG, PG X tg t ∧ ∀ (G : GS) σ A B H F, (∀ p ∈ G.kp, p.1 ∈ mu) → Good X.K cl G B H σ A F → ∀ d v, Rep X.K cl B H d v [] → ∀ A', g d A = some A' → ∀ Q, (∀ σ' F', Good X.K cl G B H σ' A' F' → Q σ' H) → t v σ H Q
def VGs (tgs : List Expr) (g : List D → Ev → Option Ev) : Prop := ∃ t : TGs, PGs X tgs t ∧ ∀ (G : GS) σ A B H F, (∀ p ∈ G.kp, p.1 ∈ mu) → Good X.K cl G B H σ A F → ∀ ds vs, RepL X.K cl B H ds vs [] → ∀ A', g ds A = some A' → ∀ Q, (∀ σ' F', Good X.K cl G B H σ' A' F' → Q σ' H) → t vs σ H Q
end
section
variable {X : Cx} {cl : Nat → Addr} {mu : List Nat} {e c tg : Expr} {es : List Expr} {st : Stmt} {rest body orelse : List Stmt} {m m1 m2 : SM} {me : Ev → Option D} {mt : Ev → Option Bool} {pos : Pos} {g : D → Ev → Option Ev}
def sNx : SM := fun A => some (.nx A)
def sSeq (m1 m2 : SM) : SM := fun A => match m1 A with
  | some (.nx A') => m2 A'
  | r => r
theorem vss_nil : VSs X cl mu [] sNx := ⟨_, pss_nil, fun G σ A B H F hk g out e Dn ok => by cases e; exact ok σ B H F g⟩
theorem vss_cons (h1 : VS X cl mu st m1) (h2 : VSs X cl mu rest m2) : VSs X cl mu (st :: rest) (sSeq m1 m2) := by
  obtain ⟨t, p, r⟩ := h1
  obtain ⟨t2, p2, r2⟩ := h2
  refine ⟨_, pss_cons p p2, fun G σ A B H F hk g out e Dn ok => ?_⟩
  unfold sSeq at e
  split at e
  · rename_i A' h
    exact r G σ A B H F hk g _ h _ fun σ' B' H' F' g' => r2 G σ' A' B' H' F' hk g' out e Dn ok
  · rename_i h
    cases out with
    | nx A' => exact absurd e (h A')
    | bk A' => exact r G σ A B H F hk g _ e _ ok
    | ct A' => exact r G σ A B H F hk g _ e _ ok
    | rt d A' => exact r G σ A B H F hk g _ e _ ok
theorem vss_one (h1 : VS X cl mu st m1) : VSs X cl mu [st] m1 := by
  obtain ⟨t, p, r⟩ := h1
  exact ⟨t, pss_one p, r⟩
/-- what is forgotten, or frozen, behind a statement: nothing in the text -/
def sKill (is : List Nat) (m : SM) : SM := fun A => match m A with
  | some (.nx A') => some (.nx (is.foldl (fun A i => A.set i none) A'))
  | r => r
theorem good_kills {K : PySem.W.Frag} {G : GS} {B H : Hp} {σ : St} : ∀ (is : List Nat) {A : Ev} {F : Nat → List Addr}, Good K cl G B H σ A F → ∃ F', Good K cl G B H σ (is.foldl (fun A i => A.set i none) A) F'
  | [], _, F, g => ⟨F, g⟩
  | i :: is, _, _, g => good_kills is g.kill
theorem vss_kill {sts : List Stmt} (is : List Nat) (h : VSs X cl mu sts m) : VSs X cl mu sts (sKill is m) := by
  obtain ⟨t, p, r⟩ := h
  refine ⟨t, p, fun G σ A B H F hk g out e Dn ok => ?_⟩
  unfold sKill at e
  split at e
  · rename_i A' h
    cases e
    exact r G σ A B H F hk g _ h _ fun σ' B' H' F' g' => let ⟨F2, g2⟩ := good_kills is g'; ok σ' B' H' F2 g2
  · exact r G σ A B H F hk g _ e _ ok
theorem vs_kill (is : List Nat) (h : VS X cl mu st m) : VS X cl mu st (sKill is m) := by
  obtain ⟨t, p, r⟩ := h
  refine ⟨t, p, fun G σ A B H F hk g out e Dn ok => ?_⟩
  unfold sKill at e
  split at e
  · rename_i A' h
    cases e
    exact r G σ A B H F hk g _ h _ fun σ' B' H' F' g' => let ⟨F2, g2⟩ := good_kills is g'; ok σ' B' H' F2 g2
  · exact r G σ A B H F hk g _ e _ ok
/-- .. ahead of it -/
def killA (is : List Nat) (A : Ev) : Ev := is.foldl (fun A i => A.set i none) A
def sKillB (is : List Nat) (m : SM) : SM := fun A => m (killA is A)
theorem vs_killB (is : List Nat) (h : VS X cl mu st m) : VS X cl mu st (sKillB is m) := by
  obtain ⟨t, p, r⟩ := h
  refine ⟨t, p, fun G σ A B H F hk g out e Dn ok => ?_⟩
  obtain ⟨F', g'⟩ := good_kills is g
  exact r G σ _ B H F' hk g' out e Dn ok
def sFrz (i : Nat) (m : SM) : SM := fun A => match A[i]? with
  | some (some d) => m (A.set i (some d.frz))
  | _ => none
theorem Good.frzAt {K : PySem.W.Frag} {G : GS} {B H : Hp} {σ : St} {A : Ev} {F : Nat → List Addr} {i : Nat} {d : D} (g : Good K cl G B H σ A F) (h : A[i]? = some (some d)) : ∃ B', Good K cl G B' H σ (A.set i (some d.frz)) (setF F i []) := by
  obtain ⟨v, e1, r⟩ := g.at_ i d h
  have hi : i < A.length := (List.getElem?_eq_some_iff.mp h).1
  have g2 : Good K cl G B H σ (A.set i none) (setF F i []) := g.kill
  have w : Own G B (setF F i []) (F i) := ⟨g.nd i, g.nb i, g.own i, fun j a z y => by
    by_cases hj : j = i
    · subst hj; rw [setF_same] at y; cases y
    · rw [setF_ne hj] at y; exact g.dis i j (Ne.symm hj) a z y⟩
  obtain ⟨g3, r3⟩ := g2.frz r w
  refine ⟨addB B H (F i), ?_⟩
  refine ⟨g3.sub, by rw [List.length_set]; exact g.len, fun j d' e => ?_, fun j e => ?_, g3.nd, g3.dis, g3.nb, g3.le0, g3.fr, g3.own, g3.bnew, g3.keep, g3.lkd⟩
  · by_cases hj : j = i
    · subst hj
      rw [List.getElem?_set_self hi] at e; cases e
      rw [setF_same]; exact ⟨v, e1, r3⟩
    · refine g3.at_ j d' ?_
      rw [List.getElem?_set_ne (Ne.symm hj)] at e ⊢; exact e
  · by_cases hj : j = i
    · subst hj; exact setF_same
    · refine g3.emp j fun d' q => e d' ?_
      rw [List.getElem?_set_ne (Ne.symm hj)] at q ⊢; exact q
theorem vs_frz (i : Nat) (h : VS X cl mu st m) : VS X cl mu st (sFrz i m) := by
  obtain ⟨t, p, r⟩ := h
  refine ⟨t, p, fun G σ A B H F hk g out e Dn ok => ?_⟩
  unfold sFrz at e
  split at e
  · rename_i d hd
    obtain ⟨B', g'⟩ := g.frzAt hd
    exact r G σ _ B' H _ hk g' out e Dn ok
  · cases e
theorem vs_pass : VS X cl mu (.Pass pos) sNx := ⟨_, ps_pass, fun G σ A B H F hk g out e Dn ok => by cases e; exact ok σ B H F g⟩
theorem vs_doc {x j pos'} : VS X cl mu (.Expr (.Constant (.str x) j pos) pos') sNx := ⟨_, ps_doc, fun G σ A B H F hk g out e Dn ok => by cases e; exact ok σ B H F g⟩
theorem vs_break : VS X cl mu (.Break pos) (fun A => some (.bk A)) := ⟨_, ps_break, fun G σ A B H F hk g out e Dn ok => by cases e; exact ok σ B H F g⟩
theorem vs_cont : VS X cl mu (.Continue pos) (fun A => some (.ct A)) := ⟨_, ps_continue, fun G σ A B H F hk g out e Dn ok => by cases e; exact ok σ B H F g⟩
theorem vs_never : VS X cl mu st (fun _ => none) := ⟨_, ps_never, fun G σ A B H F hk g out e Dn ok => by cases e⟩
theorem vss_never : VSs X cl mu rest (fun _ => none) := ⟨_, pss_never, fun G σ A B H F hk g out e Dn ok => by cases e⟩
def sExp (me : Ev → Option D) : SM := fun A => (me A).map fun _ => .nx A
theorem vs_expr (h : EvV X cl e me) (hs : swapsWith e none pos.line X.env = pure false := by rfl) : VS X cl mu (.Expr e pos) (sExp me) := by
  obtain ⟨t, p, r⟩ := h
  refine ⟨_, ps_expr p hs, fun G σ A B H F hk g out eo Dn ok => ?_⟩
  unfold sExp at eo
  simp only [Option.map_eq_some_iff] at eo
  obtain ⟨d, h1, rfl⟩ := eo
  exact r σ A B H g.renv d h1 _ fun v B' H' fp n rp => ok σ B' H' F (g.news n)
def sAsg (i : Nat) (me : Ev → Option D) : SM := fun A => (me A).bind fun d => if i < A.length then some (.nx (A.set i (some d))) else none
theorem vs_asg {i : Nat} {x : Str} {pos' : Pos} (hN : X.N.Nodup) (hi : X.N[i]? = some x) (hx : Loc X.env.scope x) (hmu : i ∉ mu) (h : EvD X cl e me) (hs : swapsWith e (some (.Name x pos')) pos.line X.env = pure false := by rfl) (hf : X.fn x = true ∨ X.env.scope.names.lookup x = some .local := by first | exact .inl rfl | exact .inr rfl | assumption) :
    VS X cl mu (.Assign [.Name x pos'] e pos) (sAsg i me) := by
  obtain ⟨t, p, r⟩ := h
  refine ⟨_, ps_set hN hi hx p hs hf, fun G σ A B H F hk g out eo Dn ok => ?_⟩
  unfold sAsg at eo
  simp only [Option.bind_eq_some_iff] at eo
  obtain ⟨d, h1, h2⟩ := eo
  split at h2
  · rename_i hl
    cases h2
    exact r σ A B H g.renv d h1 _ fun v B' H' fp n rp f => ok _ B' H' _ ((g.news n).set hl (fun p hp e => hmu (e ▸ hk p hp)) rp (g.ownF f))
  · cases h2
/-- the tree is frozen at once -/
def sAsgF (i : Nat) (me : Ev → Option D) : SM := fun A => (me A).bind fun d => if i < A.length then some (.nx (A.set i (some d.frz))) else none
theorem vs_asgF {i : Nat} {x : Str} {pos' : Pos} (hN : X.N.Nodup) (hi : X.N[i]? = some x) (hx : Loc X.env.scope x) (hmu : i ∉ mu) (h : EvD X cl e me) (hs : swapsWith e (some (.Name x pos')) pos.line X.env = pure false := by rfl) (hf : X.fn x = true ∨ X.env.scope.names.lookup x = some .local := by first | exact .inl rfl | exact .inr rfl | assumption) :
    VS X cl mu (.Assign [.Name x pos'] e pos) (sAsgF i me) := by
  obtain ⟨t, p, r⟩ := h
  refine ⟨_, ps_set hN hi hx p hs hf, fun G σ A B H F hk g out eo Dn ok => ?_⟩
  unfold sAsgF at eo
  simp only [Option.bind_eq_some_iff] at eo
  obtain ⟨d, h1, h2⟩ := eo
  split at h2
  · rename_i hl
    cases h2
    refine r σ A B H g.renv d h1 _ fun v B' H' fp n rp f => ?_
    obtain ⟨g2, r2⟩ := (g.news n).frz rp (g.ownF f)
    exact ok _ _ H' _ (g2.set hl (fun p hp e => hmu (e ▸ hk p hp)) r2 Own.nil)
  · cases h2
def sRet (me : Ev → Option D) : SM := fun A => (me A).map fun d => .rt d A
theorem vs_ret (h : EvD X cl e me) : VS X cl mu (.Return (some e) pos) (sRet me) := by
  obtain ⟨t, p, r⟩ := h
  refine ⟨_, ps_ret p, fun G σ A B H F hk g out eo Dn ok => ?_⟩
  unfold sRet at eo
  simp only [Option.map_eq_some_iff] at eo
  obtain ⟨d, h1, rfl⟩ := eo
  exact r σ A B H g.renv d h1 _ fun v B' H' fp n rp f => ok σ B' H' F v fp (g.news n) rp (g.ownF f)
theorem vs_retN : VS X cl mu (.Return none pos) (fun A => some (.rt .non A)) :=
  ⟨_, ps_retN, fun G σ A B H F hk g out eo Dn ok => by cases eo; exact ok σ B H F .non [] g rep_non Own.nil⟩
/-- a name's own tree is handed back -/
def sRetV (i : Nat) : SM := fun A => match A[i]? with
  | some (some d) => some (.rt d (A.set i none))
  | _ => none
theorem vs_retV {i : Nat} (p : PE X e (tVar i)) (hmu : i ∉ mu) : VS X cl mu (.Return (some e) pos) (sRetV i) := by
  refine ⟨_, ps_ret p, fun G σ A B H F hk g out eo Dn ok => ?_⟩
  unfold sRetV at eo
  split at eo
  · rename_i d hd
    cases eo
    obtain ⟨v, e1, r⟩ := g.at_ i d hd
    refine ⟨v, e1, ok σ B H _ v (F i) g.kill r ⟨g.nd i, g.nb i, g.own i, fun j a z y => ?_⟩⟩
    by_cases hj : j = i
    · subst hj; rw [setF_same] at y; cases y
    · rw [setF_ne hj] at y; exact g.dis i j (Ne.symm hj) a z y
  · cases eo
def sIf (mt : Ev → Option Bool) (m1 m2 : SM) : SM := fun A => (mt A).bind fun b => if b = true then m1 A else m2 A
theorem vs_if (hc : EvT X cl c mt) (h1 : VSs X cl mu body m1) (h2 : VSs X cl mu orelse m2) : VS X cl mu (.If c body orelse pos) (sIf mt m1 m2) := by
  obtain ⟨t, p, r⟩ := hc
  obtain ⟨t1, p1, r1⟩ := h1
  obtain ⟨t2, p2, r2⟩ := h2
  refine ⟨_, ps_if p p1 p2, fun G σ A B H F hk g out eo Dn ok => ?_⟩
  unfold sIf at eo
  simp only [Option.bind_eq_some_iff] at eo
  obtain ⟨b, h1, h2⟩ := eo
  refine r σ A B H g.renv b h1 _ fun B' H' n => ?_
  cases b with
  | true => rw [if_pos rfl] at h2 ⊢; exact r1 G σ A B' H' F hk (g.news n) out h2 Dn ok
  | false => rw [if_neg Bool.false_ne_true] at h2 ⊢; exact r2 G σ A B' H' F hk (g.news n) out h2 Dn ok
/-! ### targets -/
def tgN (i : Nat) : D → Ev → Option Ev := fun d A => if i < A.length then some (A.set i (some d)) else none
theorem vg_name {i : Nat} {x : Str} (hN : X.N.Nodup) (hi : X.N[i]? = some x) (hx : Loc X.env.scope x) (hmu : i ∉ mu) (hf : X.fn x = true ∨ X.env.scope.names.lookup x = some .local := by first | exact .inl rfl | exact .inr rfl | assumption) : VG X cl mu (.Name x pos) (tgN i) := by
  refine ⟨_, pg_name hN hi hx hf, fun G σ A B H F hk g d v r A' e Q q => ?_⟩
  unfold tgN at e
  split at e
  · rename_i hl
    cases e
    exact q _ _ (g.set hl (fun p hp e => hmu (e ▸ hk p hp)) r Own.nil)
  · cases e
def tgNil : List D → Ev → Option Ev := fun ds A => match ds with
  | [] => some A
  | _ => none
def tgCons (g : D → Ev → Option Ev) (gs : List D → Ev → Option Ev) : List D → Ev → Option Ev := fun ds A => match ds with
  | d :: ds => (g d A).bind fun A' => gs ds A'
  | [] => none
variable {gs : List D → Ev → Option Ev}
theorem vgs_nil : VGs X cl mu [] tgNil := by
  refine ⟨_, pgs_nil, fun G σ A B H F hk g ds vs r A' e Q q => ?_⟩
  cases ds with
  | nil => cases e; simp only [RepL] at r; exact ⟨r.1, q σ F g⟩
  | cons d ds => cases e
theorem vgs_cons (h : VG X cl mu e g) (hr : VGs X cl mu es gs) (hs : (assignEach (e :: es) X.env).map (·.2) = assign e X.env :: (assignEach es X.env).map (·.2) := by rfl) : VGs X cl mu (e :: es) (tgCons g gs) := by
  obtain ⟨t, p, r⟩ := h
  obtain ⟨t2, p2, r2⟩ := hr
  refine ⟨_, pgs_cons p p2 hs, fun G σ A B H F hk g0 ds vs rp A' e Q q => ?_⟩
  cases ds with
  | nil => cases e
  | cons d ds =>
    simp only [tgCons, Option.bind_eq_some_iff] at e
    obtain ⟨A1, h1, h2⟩ := e
    simp only [RepL] at rp
    obtain ⟨v, vr, f1, f2, e1, e2, q1, q2⟩ := rp
    have z1 : f1 = [] := (List.append_eq_nil_iff.mp e2.symm).1
    have z2 : f2 = [] := (List.append_eq_nil_iff.mp e2.symm).2
    subst z1 z2
    exact ⟨v, vr, e1, r G σ A B H F hk g0 d v q1 A1 h1 _ fun σ' F' g1 => r2 G σ' A1 B H F' hk g1 ds vr q2 A' h2 Q q⟩
def tgTup (n : Nat) (gs : List D → Ev → Option Ev) : D → Ev → Option Ev := fun d A => match d with
  | .tup ds => if ds.length = n then gs ds A else none
  | _ => none
theorem vg_tup {k n : Nat} (hc : X.calm = true) (h : VGs X cl mu es gs) (hn : (assignEach es X.env).length = n := by rfl) (hst : (assignEach es X.env).findIdx? (·.1) = none := by rfl) : VG X cl mu (.Tuple es k pos) (tgTup n gs) := by
  obtain ⟨t, p, r⟩ := h
  refine ⟨_, pg_tup hc p hn hst, fun G σ A B H F hk g0 d v rp A' e Q q => ?_⟩
  cases d <;> simp only [tgTup] at e <;> try (cases e; done)
  rename_i ds
  split at e
  · rename_i hl
    obtain ⟨a, vs, e1, q1, q2⟩ := rp.tup_view g0.sub
    exact ⟨a, vs, e1, .of q1, by rw [← q2.length]; exact hl, r G σ A B H F hk g0 ds vs q2 A' e Q q⟩
  · cases e
/-- a, b = e -/
def sAsgG (g : D → Ev → Option Ev) (me : Ev → Option D) : SM := fun A => (me A).bind fun d => (g d.frz A).map .nx
theorem vs_asgG (h : EvD X cl e me) (hg : VG X cl mu tg g) (hs : swapsWithSole [tg] e pos.line X.env = pure false := by rfl) (hw : swappedStores [tg] e X.env = pure none := by rfl) (h1 : (assignEach [tg] X.env).map (·.2) = [assign tg X.env] := by rfl) :
    VS X cl mu (.Assign [tg] e pos) (sAsgG g me) := by
  obtain ⟨t, p, r⟩ := h
  obtain ⟨t2, p2, r2⟩ := hg
  refine ⟨_, ps_asg p p2 hs hw h1, fun G σ A B H F hk g0 out eo Dn ok => ?_⟩
  unfold sAsgG at eo
  simp only [Option.bind_eq_some_iff, Option.map_eq_some_iff] at eo
  obtain ⟨d, h1, A1, h2, rfl⟩ := eo
  refine r σ A B H g0.renv d h1 _ fun v B' H' fp n rp f => ?_
  obtain ⟨g2, r3⟩ := (g0.news n).frz rp (g0.ownF f)
  exact r2 G σ A _ H' F hk g2 _ v r3 A1 h2 _ fun σ' F' g3 => ok σ' _ H' F' g3
/-! ### what a loop walks -/
structure ItOk (K : PySem.W.Frag) (cl : Nat → Addr) (J : It) (ds : List D) (B : Hp) : Prop where
  go : ∀ B' H, BLe B B' → BLe B' H → ∀ (i : Nat) (d : D), ds[i]? = some d → J.go i H ∧ ∀ x H', J.yld i H x H' → ∃ B'', New B' H B'' H' ∧ Rep K cl B'' H' d x []
  stop : ∀ B' H, BLe B B' → BLe B' H → ∀ i, ds.length ≤ i → J.stop i H
/-- an iterable: m tells the items -/
def VI_ (X : Cx) (cl : Nat → Addr) (tg iter : Expr) (m : Ev → Option (List D)) : Prop := ∃ w : TI, PI X tg iter w ∧ ∀ σ A B H, REnv X.K cl B H σ A → ∀ ds, m A = some ds → ∀ R : It → Hp → Prop, (∀ J B' H', New B H B' H' → ItOk X.K cl J ds B' → R J H') → w σ H R
def forL (bd : D → Ev → Option SOut) : List D → Ev → Option SOut
  | [], A => some (.nx A)
  | d :: ds, A => match bd d A with
    | some (.nx A') => forL bd ds A'
    | some (.ct A') => forL bd ds A'
    | some (.bk A') => some (.nx A')
    | r => r
def sFor (mi : Ev → Option (List D)) (g : D → Ev → Option Ev) (mb : SM) : SM := fun A => (mi A).bind fun ds => forL (fun d A => (g d A).bind mb) ds A
theorem vs_for {iter : Expr} {mi : Ev → Option (List D)} {mb : SM} (hp : PassesOwn (model X.prog X.w) X.A X.env X.xe) (hc : X.calm = true) (hi : VI_ X cl tg iter mi) (hg : VG X cl mu tg g) (hb : VSs X cl mu body mb)
    (hs : ∀ x, foldedSetIterable iter X.env x = pure x := by intro _; rfl) : VS X cl mu (.For tg iter body [] pos) (sFor mi g mb) := by
  obtain ⟨w, pw, rw_⟩ := hi
  obtain ⟨t2, p2, r2⟩ := hg
  obtain ⟨t3, p3, r3⟩ := hb
  refine ⟨_, ps_for hp hc pw p2 p3 hs, fun G σ A B H F hk g0 out eo Dn ok => ?_⟩
  unfold sFor at eo
  simp only [Option.bind_eq_some_iff] at eo
  obtain ⟨ds, h1, h2⟩ := eo
  refine rw_ σ A B H g0.renv ds h1 _ fun J B0 H0 n0 it => ?_
  have g1 := g0.news n0
  refine ⟨fun i m σ' H' => m = ds.length - i ∧ i ≤ ds.length ∧ ∃ A' B' F', Good X.K cl { G with B0 := B0 } B' H' σ' A' F' ∧ forL (fun d A => (g d A).bind mb) (ds.drop i) A' = some out, ⟨ds.length, by simp, Nat.zero_le _, A, B0, F, g1.reB, h2⟩, ?_⟩
  rintro i m σ' H' ⟨rfl, hi, A', B', F', g2, run⟩
  by_cases hlt : i < ds.length
  · have hd : ds[i]? = some ds[i] := by simp [hlt]
    obtain ⟨go, yl⟩ := it.go B' H' g2.le0.le g2.sub i _ hd
    rw [List.drop_eq_getElem_cons hlt] at run
    refine .inr ⟨go, fun σ2 H2 => ∃ A2 B2 F2, Good X.K cl { G with B0 := B0 } B2 H2 σ2 A2 F2 ∧ forL (fun d A => (g d A).bind mb) (ds.drop (i + 1)) A2 = some out, ?_, ?_⟩
    · rintro σ2 H2 ⟨A2, B2, F2, g3, run2⟩
      exact ⟨ds.length - (i + 1), by omega, rfl, hlt, A2, B2, F2, g3, run2⟩
    · intro x H1 hy
      obtain ⟨B1, n1, rp⟩ := yl x H1 hy
      have g3 := g2.news n1
      rw [forL] at run
      cases hbd : (g ds[i] A').bind mb with
      | none => rw [hbd] at run; cases run
      | some o =>
        rw [hbd] at run
        simp only [Option.bind_eq_some_iff] at hbd
        obtain ⟨A1, k1, k2⟩ := hbd
        refine r2 { G with B0 := B0 } σ' A' B1 H1 F' hk g3 _ x rp A1 k1 _ fun σ2 F2 g4 => ?_
        refine r3 { G with B0 := B0 } σ2 A1 B1 H1 F2 hk g4 o k2 _ ?_
        cases o with
        | nx A2 => exact fun σ3 B3 H3 F3 g5 => ⟨A2, B3, F3, g5, run⟩
        | ct A2 => exact fun σ3 B3 H3 F3 g5 => ⟨A2, B3, F3, g5, run⟩
        | bk A2 => cases run; exact fun σ3 B3 H3 F3 g5 => ok σ3 B3 H3 F3 (g1.unB g5)
        | rt d A2 => cases run; exact fun σ3 B3 H3 F3 v fp g5 rp w => ok σ3 B3 H3 F3 v fp (g1.unB g5) rp ⟨w.nd, w.nb, w.own, w.dis⟩
  · have e : i = ds.length := by omega
    subst e
    rw [List.drop_length] at run
    cases run
    exact .inl ⟨it.stop B' H' g2.le0.le g2.sub _ (Nat.le_refl _), ok σ' B' H' F' (g1.unB g2)⟩
/-- while t: at most n turns -/
def whL (mt : Ev → Option Bool) (mb : SM) : Nat → SM
  | 0, _ => none
  | n + 1, A => (mt A).bind fun b => if b = true then (match mb A with
    | some (.nx A') => whL mt mb n A'
    | some (.ct A') => whL mt mb n A'
    | some (.bk A') => some (.nx A')
    | r => r) else some (.nx A)
theorem vs_while {mb : SM} (n : Nat) (hp : PassesOwn (model X.prog X.w) X.A X.env X.xe) (hc : EvT X cl c mt) (hb : VSs X cl mu body mb) : VS X cl mu (.While c body [] pos) (whL mt mb n) := by
  obtain ⟨t, p, r⟩ := hc
  obtain ⟨t3, p3, r3⟩ := hb
  refine ⟨_, ps_while hp p p3, fun G σ A B H F hk g0 out eo Dn ok => ?_⟩
  refine ⟨fun k σ' H' => ∃ A' B' F', Good X.K cl G B' H' σ' A' F' ∧ whL mt mb k A' = some out, ⟨n, A, B, F, g0, eo⟩, ?_⟩
  rintro k σ' H' ⟨A', B', F', g1, run⟩
  cases k with
  | zero => cases run
  | succ k =>
    simp only [whL, Option.bind_eq_some_iff] at run
    obtain ⟨b, h1, h2⟩ := run
    refine r σ' A' B' H' g1.renv b h1 _ fun B1 H1 n1 => ?_
    cases b with
    | false => rw [if_neg Bool.false_ne_true] at h2 ⊢; cases h2; exact ok σ' B1 H1 F' (g1.news n1)
    | true =>
      rw [if_pos rfl] at h2 ⊢
      refine ⟨fun σ2 H2 => ∃ A2 B2 F2, Good X.K cl G B2 H2 σ2 A2 F2 ∧ whL mt mb k A2 = some out, fun σ2 H2 ⟨A2, B2, F2, g2, run⟩ => ⟨k, Nat.lt_succ_self k, A2, B2, F2, g2, run⟩, ?_⟩
      cases hbd : mb A' with
      | none => rw [hbd] at h2; cases h2
      | some o =>
        rw [hbd] at h2
        refine r3 G σ' A' B1 H1 F' hk (g1.news n1) o hbd _ ?_
        cases o with
        | nx A2 => exact fun σ3 B3 H3 F3 g5 => ⟨A2, B3, F3, g5, h2⟩
        | ct A2 => exact fun σ3 B3 H3 F3 g5 => ⟨A2, B3, F3, g5, h2⟩
        | bk A2 => cases h2; exact ok
        | rt d A2 => cases h2; exact ok
end
end VI
set_option Elab.async false
set_option linter.all false
set_option maxRecDepth 100000
set_option autoImplicit false
namespace VI
open PySem L2
section
variable {X : Cx} {cl : Nat → Addr} {mu : List Nat} {e c tg : Expr} {es : List Expr} {me : Ev → Option D} {mt : Ev → Option Bool} {pos p : Pos} {K : PySem.W.Frag} {B H B' H' : Hp}
theorem PI.or {iter : Expr} {w u : TI} (h : PI X tg iter w) (h' : PI X tg iter u) : PI X tg iter (fun σ H R => w σ H R ∨ u σ H R) := ⟨fun pins s σ H R I q => q.elim (h.run pins s σ H R I) (h'.run pins s σ H R I)⟩
theorem PS.or {st : Stmt} {t u : TS} (h : PS X st t) (h' : PS X st u) : PS X st (fun D σ H => t D σ H ∨ u D σ H) := ⟨fun pins s σ H D I q => q.elim (h.run pins s σ H D I) (h'.run pins s σ H D I)⟩
theorem sqL_at {a : Addr} {xs ys : List V} (h : SqL K H a xs) (e : H a = some (.lst ys)) (hK : K.lookup a = none ∨ True) : True := trivial
/-- a list that B tells -/
theorem it_list {a : Addr} {vs : List V} {xs : List D} (h : B a = some (.lst vs)) (r : RepL K cl B H xs vs []) : ItOk K cl (Itl K a) xs B where
  go := fun B' H1 le s i d hd => by
    obtain ⟨v, f, h1, h2, h3⟩ := r.get hd
    have hf : f = [] := List.eq_nil_iff_forall_not_mem.mpr fun a z => by have := h3 a z; cases this
    subst hf
    have hq : SqL K H1 a vs := .of (s.lst _ _ (le.lst _ _ h))
    refine ⟨⟨vs, v, hq, h1⟩, fun x H' y => ?_⟩
    obtain ⟨e, y⟩ := y
    subst e
    have := y vs hq
    rw [h1] at this
    cases this
    exact ⟨B', New.refl s, h2.mono le fun _ z => nomatch z⟩
  stop := fun B' H1 le s i hi => ⟨vs, .of (s.lst _ _ (le.lst _ _ h)), by rw [← r.length]; exact hi⟩
theorem it_tup {a : Addr} {vs : List V} {xs : List D} (h : ∀ B' H1, BLe B B' → BLe B' H1 → SqT K H1 a vs) (r : RepL K cl B H xs vs []) : ItOk K cl (Itt K a) xs B where
  go := fun B' H1 le s i d hd => by
    obtain ⟨v, f, h1, h2, h3⟩ := r.get hd
    have hf : f = [] := List.eq_nil_iff_forall_not_mem.mpr fun a z => by have := h3 a z; cases this
    subst hf
    have hq : SqT K H1 a vs := h B' H1 le s
    refine ⟨⟨vs, v, hq, h1⟩, fun x H' y => ?_⟩
    obtain ⟨e, y⟩ := y
    subst e
    have := y vs hq
    rw [h1] at this
    cases this
    exact ⟨B', New.refl s, h2.mono le fun _ z => nomatch z⟩
  stop := fun B' H1 le s i hi => ⟨vs, h B' H1 le s, by rw [← r.length]; exact hi⟩
def items : D → Option (List D)
  | .lst _ xs => some xs
  | .tup xs => some xs
  | .ktup xs => some xs
  | _ => none
def mItems (m : Ev → Option D) : Ev → Option (List D) := fun A => (m A).bind fun d => items d.frz
theorem New.frz {d : D} {v : V} {fp : List Addr} (n : New B H B' H') (r : Rep K cl B' H' d v fp) (f : Fresh H B' fp) : New B H (addB B' H' fp) H' ∧ Rep K cl (addB B' H' fp) H' d.frz v [] := by
  have le := addB_le (H := H') f.nb
  refine ⟨⟨n.ex, n.le.trans le, addB_sub n.sub, fun a e => ?_⟩, r.frz le.le fun a z => addB_in z⟩
  by_cases h : a ∈ fp
  · exact .inr (.inl (f.nh a h))
  · rw [addB_out h] at e; exact n.nb a e
theorem vi_seq (h : EvD X cl e me) : VI_ X cl tg e (mItems me) := by
  obtain ⟨t, p, r⟩ := h
  refine ⟨_, PI.or (pi_list p) (pi_tup p), fun σ A B H R0 ds hd R q => ?_⟩
  unfold mItems at hd
  simp only [Option.bind_eq_some_iff] at hd
  obtain ⟨d, h1, h2⟩ := hd
  have go : ∀ {P : V → Hp → Prop}, (∀ v B' H', New B H B' H' → Rep X.K cl B' H' d.frz v [] → P v H') → t σ H P := fun {P} k => r σ A B H R0 d h1 P fun v B' H' fp n rp f => by
    obtain ⟨n2, r2⟩ := n.frz rp f
    exact k v _ H' n2 r2
  cases hz : d.frz <;> rw [hz] at h2 <;> simp only [items] at h2 <;> try (cases h2; done)
  case lst m xs =>
    cases h2
    refine .inl (go fun v B' H' n rp => ?_)
    have hm : m = false := by cases d <;> simp only [D.frz] at hz <;> cases hz; rfl
    subst hm
    rw [hz] at rp
    simp only [Rep] at rp
    obtain ⟨a, vs, e1, q1, q2, _⟩ := rp
    exact ⟨a, e1, ⟨vs, .of (n.sub.lst _ _ q1)⟩, q _ B' H' n (it_list q1 q2)⟩
  case tup xs =>
    cases h2
    refine .inr (go fun v B' H' n rp => ?_)
    rw [hz] at rp
    simp only [Rep] at rp
    obtain ⟨a, vs, e1, q1, q2⟩ := rp
    exact ⟨a, e1, ⟨vs, .of (n.sub.tup _ _ q1)⟩, q _ B' H' n (it_tup (fun B2 H2 le s => .of (s.tup _ _ (le.tup _ _ q1))) q2)⟩
  case ktup xs =>
    cases h2
    refine .inr (go fun v B' H' n rp => ?_)
    rw [hz] at rp
    simp only [Rep] at rp
    obtain ⟨a, vs, e1, q1, q2, _⟩ := rp
    exact ⟨a, e1, ⟨vs, n.sub.sqT q1⟩, q _ B' H' n (it_tup (fun B2 H2 le s => s.sqT (le.sqT q1)) q2)⟩
/-! range -/
theorem it_range (lo : Int) (n : Nat) : ItOk K cl (Itr lo n) ((List.range n).map fun (i : Nat) => D.int (lo + i)) B where
  go := fun B' H1 le s i d hd => by
    rw [List.getElem?_map] at hd
    by_cases hi : i < n
    · rw [List.getElem?_range hi] at hd
      cases hd
      refine ⟨hi, fun x H' y => ?_⟩
      obtain ⟨e, y⟩ := y
      subst e y
      exact ⟨B', New.refl s, rep_int⟩
    · rw [List.getElem?_eq_none (by simpa using hi)] at hd; cases hd
  stop := fun B' H1 le s i hi => by show n ≤ i; simpa using hi
def rangeD1 : List D → Option (List D)
  | [.int j] => if j.natAbs ≤ 1000000 then some ((List.range j.toNat).map fun (i : Nat) => D.int (0 + i)) else none
  | _ => none
def rangeD2 : List D → Option (List D)
  | [.int i, .int j] => if i.natAbs ≤ 1000000 ∧ j.natAbs ≤ 1000000 then some ((List.range (j - i).toNat).map fun (k : Nat) => D.int (i + k)) else none
  | _ => none
def mRng1 (ms : Ev → Option (List D)) : Ev → Option (List D) := fun A => (ms A).bind rangeD1
def mRng2 (ms : Ev → Option (List D)) : Ev → Option (List D) := fun A => (ms A).bind rangeD2
variable {a b : Expr} {ms : Ev → Option (List D)}
theorem vi_range1 (hg : Gl X "range") (hm : X.mg "range" = none) (ha : EvA X cl [a] ms) (hs : starEach [a] X.env = [(false, eval a X.env)] := by rfl) : VI_ X cl tg (.Call (.Name "range" p) [a] [] pos) (mRng1 ms) := by
  obtain ⟨t, pa, r⟩ := ha
  refine ⟨_, pi_range1 hg hm pa hs, fun σ A B H R0 ds hd R q => ?_⟩
  simp only [mRng1, Option.bind_eq_some_iff] at hd
  obtain ⟨xs, h1, h2⟩ := hd
  refine r σ A B H R0 xs h1 _ fun vs B' H' fp n rp => ?_
  unfold rangeD1 at h2
  split at h2
  · split at h2
    · rename_i hb
      cases h2
      obtain ⟨v, e0, r1⟩ := repL_one rp
      rw [rep_int_iff] at r1
      exact ⟨_, by rw [e0, r1.1], by omega, by omega, q _ B' H' n (it_range 0 _)⟩
    · cases h2
  · cases h2
theorem vi_range2 (hg : Gl X "range") (hm : X.mg "range" = none) (ha : EvA X cl [a, b] ms) (hs : starEach [a, b] X.env = [(false, eval a X.env), (false, eval b X.env)] := by rfl) (hs2 : starEach [b] X.env = [(false, eval b X.env)] := by rfl) : VI_ X cl tg (.Call (.Name "range" p) [a, b] [] pos) (mRng2 ms) := by
  obtain ⟨t, pa, r⟩ := ha
  refine ⟨_, pi_range2 hg hm pa hs hs2, fun σ A B H R0 ds hd R q => ?_⟩
  simp only [mRng2, Option.bind_eq_some_iff] at hd
  obtain ⟨xs, h1, h2⟩ := hd
  refine r σ A B H R0 xs h1 _ fun vs B' H' fp n rp => ?_
  unfold rangeD2 at h2
  split at h2
  · split at h2
    · rename_i hb
      cases h2
      obtain ⟨v, w, f1, f2, e0, r1, r2, _⟩ := repL_two rp
      rw [rep_int_iff] at r1 r2
      exact ⟨_, _, by rw [e0, r1.1, r2.1], ⟨by omega, by omega, by omega, by omega⟩, q _ B' H' n (it_range _ _)⟩
    · cases h2
  · cases h2
/-! a text's signs -/
def signs (x : Str) : List D := x.cps.toList.map fun c => D.str ⟨#[c]⟩
theorem it_str (x : Str) : ItOk K cl (Its x) (signs x) B where
  go := fun B' H1 le s i d hd => by
    unfold signs at hd
    rw [List.getElem?_map] at hd
    cases hc : x.cps.toList[i]? with
    | none => rw [hc] at hd; cases hd
    | some c =>
      rw [hc] at hd
      cases hd
      have hlt : i < x.cps.size := by
        have := (List.getElem?_eq_some_iff.mp hc).1
        simpa using this
      refine ⟨hlt, fun y H' z => ?_⟩
      obtain ⟨e, c', e1, e2⟩ := z
      subst e e2
      have : c' = c := by
        rw [← Array.getElem?_toList, hc] at e1
        exact (Option.some.inj e1).symm
      subst this
      exact ⟨B', New.refl s, rep_str⟩
  stop := fun B' H1 le s i hi => by show x.cps.size ≤ i; simpa [signs] using hi
def mSigns (m : Ev → Option D) : Ev → Option (List D) := fun A => match m A with
  | some (.str x) => some (signs x)
  | _ => none
theorem vi_str (h : EvV X cl e me) : VI_ X cl tg e (mSigns me) := by
  obtain ⟨t, p, r⟩ := h
  refine ⟨_, pi_str p, fun σ A B H R0 ds hd R q => ?_⟩
  unfold mSigns at hd
  split at hd
  · rename_i x hx
    cases hd
    refine r σ A B H R0 _ hx _ fun v B' H' fp n rp => ?_
    rw [rep_str_iff] at rp
    exact ⟨x, rp.1, q _ B' H' n (it_str x)⟩
  · cases hd
/-! enumerate -/
theorem it_enum {a : Addr} {vs : List V} {xs : List D} (h : ∀ B' H1, BLe B B' → BLe B' H1 → SqL K H1 a vs) (r : RepL K cl B H xs vs []) : ItOk K cl (Ite K a) (xs.mapIdx fun (i : Nat) d => D.tup [.int i, d]) B where
  go := fun B' H1 le s i d hd => by
    rw [List.getElem?_mapIdx] at hd
    cases hx : xs[i]? with
    | none => rw [hx] at hd; cases hd
    | some d0 =>
      rw [hx] at hd
      cases hd
      obtain ⟨v, f, h1, h2, h3⟩ := r.get hx
      have hf : f = [] := List.eq_nil_iff_forall_not_mem.mpr fun a z => by have := h3 a z; cases this
      subst hf
      have hq : SqL K H1 a vs := h B' H1 le s
      refine ⟨⟨vs, v, hq, h1⟩, fun y H' z => ?_⟩
      obtain ⟨T, w, e1, e2, e3, e4⟩ := z
      subst e1 e3
      have e5 := e4 vs hq
      rw [h1] at e5
      cases e5
      have n := New.told (o := .tup [V.int ↑i, v]) s e2
      refine ⟨_, n, ?_⟩
      simp only [Rep]
      exact ⟨T, _, rfl, upd_same, by
        have r0 : Rep K cl (upd B' T (.tup [V.int ↑i, v])) (upd H1 T (.tup [V.int ↑i, v])) d0 v [] := (h2.mono (B' := B') (H' := H1) le (fun a z => absurd z List.not_mem_nil)).news n
        exact repL_cons (f := []) (g := []) rep_int (repL_cons (f := []) (g := []) r0 repL_nil)⟩
  stop := fun B' H1 le s i hi => ⟨vs, h B' H1 le s, by rw [← r.length]; simpa using hi⟩
def lstItems : D → Option (List D)
  | .lst _ xs => some xs
  | _ => none
def mEnum (ms : Ev → Option (List D)) : Ev → Option (List D) := fun A => (ms A).bind fun ds => match ds with
  | [.lst _ xs] => some ((D.frzL xs).mapIdx fun (i : Nat) d => D.tup [.int i, d])
  | _ => none
/-- enumerate over a name's list (shared, or a plain one that nobody changes meanwhile) -/
theorem vi_enum {elts : List Expr} {kk : Nat} {tpos : Pos} (hg : Gl X "enumerate") (hm : X.mg "enumerate" = none) (h : EvAD X cl [e] ms) (hs : starEach [e] X.env = [(false, eval e X.env)] := by rfl) :
    VI_ X cl (.Tuple elts kk tpos) (.Call (.Name "enumerate" p) [e] [] pos) (mEnum ms) := by
  obtain ⟨t, pa, r⟩ := h
  refine ⟨_, pi_enum hg hm pa hs, fun σ A B H R0 ds hd R q => ?_⟩
  simp only [mEnum, Option.bind_eq_some_iff] at hd
  obtain ⟨xs, h1, h2⟩ := hd
  refine r σ A B H R0 xs h1 _ fun vs B' H' fp n rp f => ?_
  split at h2
  · rename_i m ys
    cases h2
    obtain ⟨v, e0, r1⟩ := repL_one rp
    obtain ⟨n2, r2⟩ := n.frz r1 f
    simp only [Rep, D.frz] at r2
    obtain ⟨a, us, e1, q1, q2, _⟩ := r2
    exact ⟨a, us, by rw [e0, e1], .of (n2.sub.lst _ _ q1), q _ _ H' n2 (it_enum (fun B2 H2 le s => .of (s.lst _ _ (le.lst _ _ q1))) q2)⟩
  · cases h2
end
end VI
set_option Elab.async false
set_option linter.all false
set_option maxRecDepth 100000
set_option autoImplicit false
namespace VI
open PySem L2
section
variable {K : PySem.W.Frag} {cl : Nat → Addr} {G : GS} {B H B' H' : Hp} {σ σ' : St} {A A' : Ev} {F F' : Nat → List Addr} {d : D} {ds : List D} {v : V} {vs : List V} {fp : List Addr}
/-- the shared part with these nodes: exact, whatever B told of them -/
theorem addB_leS (s : BLe B H) (st : ∀ a ∈ fp, ∃ o, H a = some o ∧ ownable o = true) : BEx B (addB B H fp) := fun a u e => by
  by_cases h : a ∈ fp
  · rw [addB_in h]
    obtain ⟨o, q, w⟩ := st a h
    rcases s.rd a u (.inl e) with r | ⟨x, r⟩
    · exact r
    · rw [q] at r; cases r; cases w
  · rw [addB_out h]; exact e
theorem RepL.freeze (s : BLe B H) (r : RepL K cl B H ds vs fp) : BLe (addB B H fp) H ∧ BEx B (addB B H fp) ∧ RepL K cl (addB B H fp) H (D.frzL ds) vs [] := by
  have le := addB_leS s r.stand'
  exact ⟨addB_sub s, le, r.frz le.le fun a z => addB_in z⟩
theorem Rep.freeze (s : BLe B H) (r : Rep K cl B H d v fp) : BLe (addB B H fp) H ∧ BEx B (addB B H fp) ∧ Rep K cl (addB B H fp) H d.frz v [] := by
  have le := addB_leS s r.stand'
  exact ⟨addB_sub s, le, r.frz le.le fun a z => addB_in z⟩
mutual
theorem Rep.thin (hx : ∀ a vs, B a = some (.tup vs) → B' a = some (.tup vs)) : ∀ {d : D} {v : V} {fp : List Addr}, d.clean = true → Rep K cl B H d v fp → Rep K cl B' H d v fp
  | .non, _, _, _, h => by simpa only [Rep] using h
  | .bl _, _, _, _, h => by simpa only [Rep] using h
  | .int _, _, _, _, h => by simpa only [Rep] using h
  | .str _, _, _, _, h => by simpa only [Rep] using h
  | .tup ds, _, _, k, h => by
    simp only [Rep] at h ⊢
    obtain ⟨a, vs, e, q, r⟩ := h
    exact ⟨a, vs, e, hx a vs q, RepL.thin hx (by simpa only [D.clean] using k) r⟩
  | .scr _, _, _, k, _ => by simp [D.clean] at k
  | .ktup _, _, _, k, _ => by simp [D.clean] at k
  | .lst false ds, _, _, k, _ => by simp [D.clean] at k
  | .lst true ds, _, _, k, h => by
    simp only [Rep] at h ⊢
    obtain ⟨a, vs, fq, e, q, r, e2⟩ := h
    exact ⟨a, vs, fq, e, q, RepL.thin hx (by simpa [D.clean] using k) r, e2⟩
  | .dct false _ ds, _, _, k, _ => by simp [D.clean] at k
  | .dct true ks ds, _, _, k, h => by
    simp only [Rep] at h ⊢
    obtain ⟨a, vs, fq, e, q, l, r, e2⟩ := h
    exact ⟨a, vs, fq, e, q, l, RepL.thin hx (by simpa [D.clean] using k) r, e2⟩
  | .dtt false _ ds, _, _, k, _ => by simp [D.clean] at k
  | .dtt true ks ds, _, _, k, h => by
    simp only [Rep] at h ⊢
    obtain ⟨a, vs, fq, e, q, l, r, e2⟩ := h
    exact ⟨a, vs, fq, e, q, l, RepL.thin hx (by simpa [D.clean] using k) r, e2⟩
  | .obj false _ _ ds, _, _, k, _ => by simp [D.clean] at k
  | .obj true c fs ds, _, _, k, h => by
    simp only [Rep] at h ⊢
    obtain ⟨a, dx, vs, fq, e, q, l, r, e2⟩ := h
    exact ⟨a, dx, vs, fq, e, q, l, RepL.thin hx (by simpa [D.clean] using k) r, e2⟩
theorem RepL.thin (hx : ∀ a vs, B a = some (.tup vs) → B' a = some (.tup vs)) : ∀ {ds : List D} {vs : List V} {fp : List Addr}, D.cleanL ds = true → RepL K cl B H ds vs fp → RepL K cl B' H ds vs fp
  | [], _, _, _, h => by simpa only [RepL] using h
  | d :: ds, _, _, k, h => by
    simp only [D.cleanL, Bool.and_eq_true] at k
    simp only [RepL] at h ⊢
    obtain ⟨v, vr, f1, f2, e, e2, r, rr⟩ := h
    exact ⟨v, vr, f1, f2, e, e2, Rep.thin hx k.1 r, RepL.thin hx k.2 rr⟩
end
/-- behind a look with frozen arguments: what is new stays, what was owned is owned again -/
theorem New.thaw {fq : List Addr} (s : BLe B H) (st : ∀ a ∈ fp, ∃ o, H a = some o ∧ ownable o = true) (n : New (addB B H fp) H B' H') (r : Rep K cl B' H' d v fq) (f : Fresh H B' fq) (c : fp = [] ∨ d.clean = true) :
    ∃ B2, New B H B2 H' ∧ Rep K cl B2 H' d v fq ∧ Fresh H B2 fq := by
  classical
  have le := addB_leS s st
  by_cases hf : fp = []
  · subst hf
    have e : addB B H [] = B := by funext a; exact addB_out (fun z => nomatch z)
    rw [e] at n
    exact ⟨B', n, r, f⟩
  · have hc : d.clean = true := c.resolve_left hf
    refine ⟨fun a => if a ∈ fp ∧ B a = none then none else B' a, ⟨n.ex, fun a u e => ?_, ?_, fun a e => ?_⟩, ?_, ⟨f.nd, f.nh, fun a z => ?_⟩⟩
    · show (if a ∈ fp ∧ B a = none then none else B' a) = some u
      rw [if_neg (by rw [e]; rintro ⟨_, h⟩; cases h)]
      exact n.le a u (le a u e)
    · refine BLe.trans (BLe.of_same fun a u e => ?_) n.sub
      show B' a = some u
      have e : (if a ∈ fp ∧ B a = none then none else B' a) = some u := e
      split at e
      · cases e
      · exact e
    · have e : (if a ∈ fp ∧ B a = none then none else B' a) ≠ none := e
      split at e
      · exact absurd rfl e
      · rename_i hn
        rcases n.nb a e with h | h
        · by_cases ha : a ∈ fp
          · exact .inl fun q => hn ⟨ha, q⟩
          · rw [addB_out ha] at h; exact .inl h
        · exact .inr h
    · refine r.thin (fun a vs e => ?_) hc
      show (if a ∈ fp ∧ B a = none then none else B' a) = some (.tup vs)
      rw [if_neg]
      · exact e
      · rintro ⟨ha, _⟩
        obtain ⟨o, q, w⟩ := st a ha
        have h1 := n.le a o (by rw [addB_in ha]; exact q)
        rw [e] at h1
        cases h1
        cases w
    · show (if a ∈ fp ∧ B a = none then none else B' a) = none
      split
      · rfl
      · exact f.nb a z
end
/-! ### a def as a function on trees -/
def runF (n N : Nat) (m : SM) (ds : List D) : Option (D × Ev) :=
  if ds.length = n then
    match m (ds.map some ++ List.replicate (N - n) none) with
    | some (.rt d A) => some (d, A)
    | some (.nx A) => some (.non, A)
    | _ => none
  else none
def gs0 (H B : Hp) (S : List Addr) (mu : List Nat) (vs : List V) : GS := ⟨H, B, S, mu.filterMap fun i => vs[i]?.map fun v => (i, v), []⟩
def SpF (K : PySem.W.Frag) (cl : Nat → Addr) (mu : List Nat) (n : Nat) (f : List D → Option (D × Ev)) : Sp := fun vs H Q _ =>
  vs.length = n ∧ ∃ B ds F S, Good K cl (gs0 H B S mu vs) B H (vs.map some) (ds.map some) F ∧ ∃ d A', f ds = some (d, A') ∧
    ∀ σ' B' H' F' v fp, Good K cl (gs0 H B S mu vs) B' H' σ' A' F' → Rep K cl B' H' d v fp → Own (gs0 H B S mu vs) B' F' fp → Q v H'
section
variable {P : Program} {w : World} {K : PySem.W.Frag} {mg : Str → Option Value} {base : Heap} {x qual : Str} {params : Arguments} {body : List Stmt} {scope : Scope} {dvs : List V} {kws : List (Str × V)} {f : Addr} {fd : FuncData} {cl : Nat → Addr} {G : GS} {B H : Hp} {σ : St} {A : Ev} {F : Nat → List Addr}
theorem Good.more (g : Good K cl G B H σ A F) (m : Nat) : Good K cl G B H (σ ++ List.replicate m none) (A ++ List.replicate m none) F where
  sub := g.sub
  len := by simp [g.len]
  at_ := fun i d e => by
    by_cases h : i < A.length
    · rw [List.getElem?_append_left h] at e
      rw [List.getElem?_append_left (by rw [g.len]; exact h)]
      exact g.at_ i d e
    · rw [List.getElem?_append_right (by omega), List.getElem?_replicate] at e
      split at e <;> cases e
  emp := fun i h => g.emp i fun d e => by
    have hl := (List.getElem?_eq_some_iff.mp e).1
    exact h d (by rw [List.getElem?_append_left hl]; exact e)
  nd := g.nd
  dis := g.dis
  nb := g.nb
  le0 := g.le0
  fr := g.fr
  own := g.own
  bnew := g.bnew
  keep := fun p hp => by
    have e := g.keep p hp
    have hl := (List.getElem?_eq_some_iff.mp e).1
    rw [List.getElem?_append_left hl]; exact e
  lkd := g.lkd
theorem kp_mu {H B : Hp} {S : List Addr} {mu : List Nat} {vs : List V} : ∀ p ∈ (gs0 H B S mu vs).kp, p.1 ∈ mu := fun p hp => by
  simp only [gs0, List.mem_filterMap, Option.map_eq_some_iff] at hp
  obtain ⟨i, hi, v, _, rfl⟩ := hp
  exact hi
/-- a def's body keeps the promise -/
theorem fn_run {X : Cx} {mu : List Nat} {m : SM} {N ps : List Str} (h : VSs X cl mu body m) (hK : X.K = K) {vs : List V} {Q : VK} {E : XK} (h2 : SpF K cl mu ps.length (runF ps.length N.length m) vs H Q E) :
    ∃ t, PSs X body t ∧ t { nx := fun _ H' => Q .non H', rt := Q } (L2.start N vs) H := by
  obtain ⟨t, p, r⟩ := h
  obtain ⟨hl, B, ds, F, S, g, d, A', e, q⟩ := h2
  subst hK
  refine ⟨t, p, ?_⟩
  unfold runF at e
  split at e
  · rename_i hd
    have g1 := g.more (N.length - ps.length)
    have es : L2.start N vs = vs.map some ++ List.replicate (N.length - ps.length) none := by unfold L2.start; rw [hl]
    rw [es]
    split at e
    · rename_i d' A1 hm
      cases e
      exact r _ _ _ B H F kp_mu g1 _ hm _ fun σ' B' H' F' v fp g2 rp w => q σ' B' H' F' v fp g2 rp w
    · rename_i A1 hm
      cases e
      exact r _ _ _ B H F kp_mu g1 _ hm _ fun σ' B' H' F' g2 => q σ' B' H' F' .non [] g2 rep_non Own.nil
    · cases e
  · cases e
theorem fn_ok {mu : List Nat} {m : SM} {N ps : List Str} {k : Nat} (Fd : FunD K x qual params body scope dvs kws f fd) (S : FnScope N ps scope)
    (hb : ∀ (cdv : Value) (A : Around) (outer : List Env) (s : Shared) (H : Hp) (E : XK), Room k (A.deeper (PyProof.Rows.envOfC qual scope s.heap.objs.size f cdv)) → VSs (cxOf CX0 P w K mg base N qual scope f cdv A outer s H E).nox cl mu body m) :
    FnOk P w K mg base CX0 (k + 1) f fd ps (SpF K cl mu ps.length (runF ps.length N.length m)) := by
  refine Fd.ok S (fun vs H Q E h => h.1) fun cdv A outer s H vs Q E hr h => ?_
  obtain ⟨t, p, q⟩ := fn_run (N := N) (hb cdv A outer s H E hr) rfl h
  exact ⟨t, p.nox, q⟩
end
/-! ### calls that look only -/
section
variable {K : PySem.W.Frag} {cl : Nat → Addr} {B H B' H' : Hp} {ds : List D} {vs : List V} {fp : List Addr} {f : List D → Option (D × Ev)} {n : Nat} {E : XK}
theorem RepL.at (r : RepL K cl B H ds vs []) {i : Nat} {d : D} (e : ds[i]? = some d) : ∃ v, vs[i]? = some v ∧ Rep K cl B H d v [] := by
  obtain ⟨v, f, h1, h2, h3⟩ := r.get e
  have hf : f = [] := List.eq_nil_iff_forall_not_mem.mpr fun a z => by have := h3 a z; cases this
  subst hf
  exact ⟨v, h1, h2⟩
theorem good0 (s : BLe B H) (r : RepL K cl B H ds vs []) : Good K cl (gs0 H B [] [] vs) B H (vs.map some) (ds.map some) (fun _ => []) where
  sub := s
  len := by simp [r.length]
  at_ := fun i d e => by
    rw [List.getElem?_map] at e
    cases h : ds[i]? with
    | none => rw [h] at e; cases e
    | some d' =>
      rw [h] at e; cases e
      obtain ⟨v, h1, h2⟩ := r.at h
      exact ⟨v, by rw [List.getElem?_map, h1]; rfl, h2⟩
  emp := fun _ _ => rfl
  nd := fun _ => List.nodup_nil
  dis := fun _ _ _ _ z => nomatch z
  nb := fun _ _ z => nomatch z
  le0 := BEx.refl B
  fr := fun a o e _ => .inl e
  own := fun _ _ z => nomatch z
  bnew := fun a e => .inl e
  keep := fun _ z => nomatch z
  lkd := fun _ z => nomatch z
/-- a promise met by a look -/
theorem call_pure {d : D} {A' : Ev} {Q : VK} (s : BLe B H) (r : RepL K cl B H ds vs fp) (hn : ds.length = n) (e : f (D.frzL ds) = some (d, A')) (c : D.plainL ds = true ∨ d.clean = true)
    (q : ∀ v B' H' fq, New B H B' H' → Rep K cl B' H' d v fq → Fresh H B' fq → Q v H') : SpF K cl [] n f vs H Q E := by
  obtain ⟨s2, le, r2⟩ := r.freeze s
  refine ⟨by rw [← r.length]; exact hn, addB B H fp, D.frzL ds, _, [], good0 s2 r2, d, A', e, fun σ' B' H' F' v fq g rp w => ?_⟩
  have n2 : New (addB B H fp) H B' H' := ⟨fun a o e => (g.fr a o e (fun z => nomatch z)).elim id fun ⟨p, hp, _⟩ => (nomatch hp), g.le0, g.sub, fun a e => (g.bnew a e).imp id fun h => h.elim id fun z => (nomatch z)⟩
  have f2 : Fresh H B' fq := ⟨w.nd, fun a z => (w.own a z).resolve_left (fun z => nomatch z), w.nb⟩
  obtain ⟨B2, n3, r3, f3⟩ := New.thaw s r.stand' n2 rp f2 (c.imp (fun h => RepL.plain h r) id)
  exact q v B2 H' fq n3 r3 f3
end
/-- where a parameter's value comes from: the i-th written one, the i-th by keyword, a default -/
inductive Src where
  | p (i : Nat) | k (i : Nat) | c (i : Nat)
def Src.get {α : Type} (us ws cs : List α) : Src → Option α
  | .p i => us[i]?
  | .k i => ws[i]?
  | .c i => cs[i]?
def gsel : List Src → {α : Type} → List α → List α → List α → List α
  | [], _, _, _, _ => []
  | s :: src, _, us, ws, cs => match s.get us ws cs with
    | some a => a :: gsel src us ws cs
    | none => gsel src us ws cs
section
variable {K : PySem.W.Frag} {cl : Nat → Addr} {B H B' H' : Hp} {ds zs cs : List D} {vs kvs cvs : List V} {fp : List Addr}
theorem RepL.getNone (r : RepL K cl B H ds vs []) {i : Nat} (e : ds[i]? = none) : vs[i]? = none := by
  rw [List.getElem?_eq_none_iff] at e ⊢; rw [← r.length]; exact e
theorem repL_gsel (r1 : RepL K cl B H ds vs []) (r2 : RepL K cl B H zs kvs []) (r3 : RepL K cl B H cs cvs []) : ∀ src : List Src, RepL K cl B H (gsel src ds zs cs) (gsel src vs kvs cvs) []
  | [] => repL_nil
  | s :: src => by
    have ih := repL_gsel r1 r2 r3 src
    have key : ∀ {xs : List D} {us : List V}, RepL K cl B H xs us [] → ∀ i : Nat, (xs[i]? = none ∧ us[i]? = none) ∨ ∃ d v, xs[i]? = some d ∧ us[i]? = some v ∧ Rep K cl B H d v [] := fun {xs us} r i => by
      cases h : xs[i]? with
      | none => exact .inl ⟨rfl, r.getNone h⟩
      | some d => obtain ⟨v, h1, h2⟩ := r.at h; exact .inr ⟨d, v, rfl, h1, h2⟩
    have key2 : (s.get ds zs cs = none ∧ s.get vs kvs cvs = none) ∨ ∃ d v, s.get ds zs cs = some d ∧ s.get vs kvs cvs = some v ∧ Rep K cl B H d v [] := by
      cases s with
      | p i => exact key r1 i
      | k i => exact key r2 i
      | c i => exact key r3 i
    rcases key2 with ⟨h1, h2⟩ | ⟨d, v, h1, h2, h3⟩
    · simp only [gsel, h1, h2]; exact ih
    · simp only [gsel, h1, h2]; exact repL_cons (f := []) (g := []) h3 ih
theorem vals_gsel {us ws : List Value} {cu : List Value} (r1 : Vals vs us) (r2 : Vals kvs ws) (r3 : Vals cvs cu) : ∀ src : List Src, Vals (gsel src vs kvs cvs) (gsel src us ws cu)
  | [] => .nil
  | s :: src => by
    have ih := vals_gsel r1 r2 r3 src
    have key : ∀ {xs : List V} {us : List Value}, Vals xs us → ∀ i : Nat, (xs[i]? = none ∧ us[i]? = none) ∨ ∃ d v, xs[i]? = some d ∧ us[i]? = some v ∧ RelV d v := fun {xs us} r => by
      induction r with
      | nil => exact fun i => .inl ⟨rfl, rfl⟩
      | cons h _ ih => exact fun i => match i with
        | 0 => .inr ⟨_, _, rfl, rfl, h⟩
        | i + 1 => ih i
    have key2 : (s.get vs kvs cvs = none ∧ s.get us ws cu = none) ∨ ∃ d v, s.get vs kvs cvs = some d ∧ s.get us ws cu = some v ∧ RelV d v := by
      cases s with
      | p i => exact key r1 i
      | k i => exact key r2 i
      | c i => exact key r3 i
    rcases key2 with ⟨h1, h2⟩ | ⟨d, v, h1, h2, h3⟩
    · simp only [gsel, h1, h2]; exact ih
    · simp only [gsel, h1, h2]; exact .cons h3 ih
end
/-- how a call binds: n written values, the keywords ks; the defaults stand for the trees cs -/
structure KBs (K : PySem.W.Frag) (fd : FuncData) (ps : List Str) (n : Nat) (ks : List Str) (src : List Src) (cs : List D) (cvs : List V) : Prop where
  kb : ∃ cu, KBn K fd ps n ks (fun us ws => gsel src us ws cu) (fun vs zs => gsel src vs zs cvs)
  rep : ∀ cl B H, RepL K cl B H cs cvs []
theorem plainL_append {xs ys : List D} : D.plainL (xs ++ ys) = (D.plainL xs && D.plainL ys) := by
  induction xs with
  | nil => simp [D.plainL]
  | cons x xs ih => simp [D.plainL, ih, Bool.and_assoc]
/-- a look's call -/
def mPure (f : List D → Option (D × Ev)) (src : List Src) (cs : List D) (ms mk : Ev → Option (List D)) : Ev → Option D := fun A =>
  (ms A).bind fun ds => (mk A).bind fun zs => (f (gsel src (D.frzL ds) (D.frzL zs) cs)).bind fun r => if (D.plainL ds = true ∧ D.plainL zs = true) ∨ r.1.clean = true then some r.1 else none
section
variable {X : Cx} {cl : Nat → Addr} {CX : CXT} {k n : Nat} {f C : Addr} {fd : FuncData} {ps ks : List Str} {src : List Src} {cs : List D} {cvs : List V} {x m : Str} {p pos apos : Pos} {e o : Expr} {es : List Expr} {kws : List Keyword} {me : Ev → Option D} {ms mk : Ev → Option (List D)} {g : List D → Option (D × Ev)} {pl : Sem Bool}
/-- keywords' values -/
def EvK (X : Cx) (cl : Nat → Addr) (kws : List Keyword) (m : Ev → Option (List D)) : Prop := ∃ t : TA, PK X kws t ∧ ∀ σ A B H, REnv X.K cl B H σ A → ∀ ds, m A = some ds → ∀ Q : List V → Hp → Prop, (∀ vs B' H' fp, New B H B' H' → RepL X.K cl B' H' ds vs fp → Q vs H') → t σ H Q
theorem ek_nil : EvK X cl [] mNil := ⟨_, pk_nil, fun σ A B H R ds e Q q => by cases e; exact q [] B H [] (New.refl R.sub) repL_nil⟩
theorem ek_cons {kpos : Pos} {nm : Option Str} (h : EvV X cl e me) (hr : EvK X cl kws ms) : EvK X cl ({ arg := nm, value := e, pos := kpos } :: kws) (mCons me ms) := by
  obtain ⟨t, p, r⟩ := h
  obtain ⟨t2, p2, r2⟩ := hr
  refine ⟨_, pk_cons p p2, fun σ A B H R ds e Q q => ?_⟩
  obtain ⟨d, ds', h1, h2, rfl⟩ := mCons_some e
  exact r σ A B H R d h1 _ fun v B1 H1 f1 n1 r1 => r2 σ A B1 H1 (R.news n1) ds' h2 _ fun vs B2 H2 f2 n2 rr => q (v :: vs) B2 H2 (f1 ++ f2) (n1.trans n2) (repL_cons (r1.news n2) rr)
theorem frzL_append {xs ys : List D} : D.frzL (xs ++ ys) = D.frzL xs ++ D.frzL ys := by
  induction xs with
  | nil => rfl
  | cons x xs ih => simp [D.frzL, ih]
mutual
theorem frz_frz : ∀ d : D, d.frz.frz = d.frz
  | .non => rfl | .bl _ => rfl | .int _ => rfl | .str _ => rfl | .scr _ => rfl | .ktup _ => rfl
  | .tup xs => by simp only [D.frz, frzL_frz xs]
  | .lst _ xs => by simp only [D.frz, frzL_frz xs]
  | .dct _ _ xs => by simp only [D.frz, frzL_frz xs]
  | .dtt _ _ xs => by simp only [D.frz, frzL_frz xs]
  | .obj _ _ _ xs => by simp only [D.frz, frzL_frz xs]
theorem frzL_frz : ∀ ds : List D, D.frzL (D.frzL ds) = D.frzL ds
  | [] => rfl
  | d :: ds => by simp only [D.frzL, frz_frz d, frzL_frz ds]
end
/-- what stands behind a look's call -/
theorem pure_core {src : List Src} {B H : Hp} {ds zs : List D} {vs kvs : List V} {f1 f2 : List Addr} {K : PySem.W.Frag} {d : D} {A' : Ev} {Q : VK} {E : XK} (hl : ps.length = n) (s : BLe B H) (r1 : RepL K cl B H ds vs f1) (r2 : RepL K cl B H zs kvs f2) (hc : ∀ cl B H, RepL K cl B H cs cvs [])
    (e : g (gsel src (D.frzL ds) (D.frzL zs) cs) = some (d, A')) (hn : (gsel src (D.frzL ds) (D.frzL zs) cs).length = n) (c : (D.plainL ds = true ∧ D.plainL zs = true) ∨ d.clean = true)
    (q : ∀ v B' H' fq, New B H B' H' → Rep K cl B' H' d v fq → Fresh H B' fq → Q v H') : SpF K cl [] n g (gsel src vs kvs cvs) H Q E := by
  have ra := RepL.append r1 r2
  obtain ⟨s2, le, r3⟩ := ra.freeze s
  have le1 : BEx B (addB B H (f1 ++ f2)) := le
  have q1 : RepL K cl (addB B H (f1 ++ f2)) H (D.frzL ds) vs [] := r1.frz le1.le fun a z => addB_in (List.mem_append_left _ z)
  have q2 : RepL K cl (addB B H (f1 ++ f2)) H (D.frzL zs) kvs [] := r2.frz le1.le fun a z => addB_in (List.mem_append_right _ z)
  have qs := repL_gsel q1 q2 (hc cl (addB B H (f1 ++ f2)) H) src
  refine ⟨by rw [← qs.length]; exact hn, addB B H (f1 ++ f2), _, _, [], good0 s2 qs, d, A', e, fun σ' B' H' F' v fq g rp w => ?_⟩
  have n2 : New (addB B H (f1 ++ f2)) H B' H' := ⟨fun a o e => (g.fr a o e (fun z => nomatch z)).elim id fun ⟨p, hp, _⟩ => (nomatch hp), g.le0, g.sub, fun a e => (g.bnew a e).imp id fun h => h.elim id fun z => (nomatch z)⟩
  have f2' : Fresh H B' fq := ⟨w.nd, fun a z => (w.own a z).resolve_left (fun z => nomatch z), w.nb⟩
  obtain ⟨B2, n3, r4, f3⟩ := New.thaw s ra.stand' n2 rp f2' (c.imp (fun h => by rw [RepL.plain h.1 r1, RepL.plain h.2 r2]; rfl) id)
  exact q v B2 H' fq n3 r4 f3
theorem mPure_some {A : Ev} {d : D} (h : mPure g src cs ms mk A = some d) : ∃ ds zs A', ms A = some ds ∧ mk A = some zs ∧ g (gsel src (D.frzL ds) (D.frzL zs) cs) = some (d, A') ∧ ((D.plainL ds = true ∧ D.plainL zs = true) ∨ d.clean = true) := by
  unfold mPure at h
  simp only [Option.bind_eq_some_iff] at h
  obtain ⟨ds, h1, zs, h2, r, h3, h4⟩ := h
  split at h4
  · rename_i hc
    cases h4
    exact ⟨ds, zs, r.2, h1, h2, h3, hc⟩
  · cases h4
/-- f asks its number of parameters -/
def Ar (n : Nat) (g : List D → Option (D × Ev)) : Prop := ∀ ds r, g ds = some r → ds.length = n
theorem ar_runF {n N : Nat} {m : SM} : Ar n (runF n N m) := fun ds r h => by
  unfold runF at h
  split at h
  · assumption
  · cases h
/-- f(e, .., k = v, ..) -/
theorem ev_call (F : FnOk X.prog X.w X.K X.mg X.base CX0 k f fd ps (SpF X.K cl [] ps.length g)) (hr : Room k X.A) (hg : Gl X x) (hm : X.mg x = some (.ref f)) (hk : PySem.W.keepIn X.K (.ref f) = true) (hb : KBs X.K fd ps n ks src cs cvs) (har : Ar ps.length g)
    (ha : EvA X cl (e :: es) ms) (hkw : EvK X cl kws mk) (hn : ∀ A ds, ms A = some ds → ds.length = n) (hz : ∀ A ds, mk A = some ds → ds.length = ks.length)
    (hall : (backToKw pos (keywordEach kws X.env)).all (·.1.isSome) = true := by rfl) (hks : (backToKw pos (keywordEach kws X.env)).filterMap (·.1) = ks := by rfl)
    (hdb : (x == ("__debug__" : Str)) = false := by decide) (he : starEach (e :: es) X.env = (false, eval e X.env) :: starEach es X.env := by rfl)
    (hpl : ((backTo pos (starEach (e :: es) X.env)).any (·.1) || (backToKw pos (keywordEach kws X.env)).any (·.1.isNone)) = false := by rfl) :
    EvD X cl (.Call (.Name x p) (e :: es) kws pos) (mPure g src cs ms mk) := by
  obtain ⟨t, pa, r⟩ := ha
  obtain ⟨t2, pk, r2⟩ := hkw
  obtain ⟨cu, kb⟩ := hb.kb
  refine ⟨_, pe_callN F hr hg hm hk kb pass0 pa pk hall hks hdb he hpl, fun σ A B H R d h Q q => ?_⟩
  obtain ⟨ds, zs, A', h1, h2, h3, h4⟩ := mPure_some h
  refine r σ A B H R ds h1 _ fun vs B1 H1 f1 n1 q1 => ?_
  refine r2 σ A B1 H1 (R.news n1) zs h2 _ fun kvs B2 H2 f2 n2 q2 => ?_
  refine ⟨by rw [← q1.length]; exact hn A ds h1, by rw [← q2.length]; exact hz A zs h2, ?_⟩
  exact pure_core rfl n2.sub (q1.news n2) q2 hb.rep h3 (har _ _ h3) h4 fun v B3 H3 fq n3 r3 f3 => q v B3 H3 fq (n1.trans (n2.trans n3)) r3 (fresh_trans (n1.trans n2) f3)
/-! methods -/
def tMethN (C : Addr) (m : Str) (n nk : Nat) (sp : Sp) (gV : List V → List V → List V) (E : XK) (ta : TE) (t tk : TA) : TE := fun σ H Q => ta σ H fun x H1 => ∃ a dx fs, x = .ref a ∧ H1 a = some (.ins C dx fs) ∧ fs.lookup m = none ∧
  t σ H1 fun vs H2 => tk σ H2 fun zs H3 => vs.length = n ∧ zs.length = nk ∧ sp (gV (x :: vs) zs) H3 Q E
theorem pe_methN {g : List Value → List Value → List Value} {gV : List V → List V → List V} {sp : Sp} {E : XK} {ta : TE} {t tk : TA} (he : PE X o ta) (c : Cls X.K C) (hm : Meth X.K C m f) (F : FnOk X.prog X.w X.K X.mg X.base CX k f fd ps sp) (hr : Room k X.A) (hb : KBn X.K fd ps (n + 1) ks g gV) (hx : Passes CX X E)
    (ha : PA X (e :: es) t) (hkw : PK X kws tk) (hall : (backToKw pos (keywordEach kws X.env)).all (·.1.isSome) = true := by rfl) (hks : (backToKw pos (keywordEach kws X.env)).filterMap (·.1) = ks := by rfl)
    (hst : starEach (e :: es) X.env = (false, eval e X.env) :: starEach es X.env := by rfl)
    (hpl : ((backTo pos (starEach (e :: es) X.env)).any (·.1) || (backToKw pos (keywordEach kws X.env)).any (·.1.isNone)) = false := by rfl)
    (ht : eval (.Call (.Attribute o m apos) (e :: es) kws pos) X.env = (do
      let ov ← eval o X.env
      standAt apos.atName
      let (f, first) ← holding [ov] (getMethod ov m pl)
      callWith pos f first (backTo pos (starEach (e :: es) X.env)) (backToKw pos (keywordEach kws X.env))) := by rfl) :
    PE X (.Call (.Attribute o m apos) (e :: es) kws pos) (tMethN C m n ks.length sp gV E ta t tk) := by
  refine ⟨fun pins s σ H Q I h => ?_⟩
  refine PySem.W.methodCall_KW (pl := pl) (thn (he.run pins s σ H _ I h) fun u s1 ⟨x, H1, I1, rx, a, dx, fs, ex, ea, l, q⟩ => ?_) ht
  subst ex
  obtain rfl : u = Value.ref a := rx
  refine getmeth_ok I1 ea c hm l ?_
  refine PySem.W.callWith_KW (first := [.ref a]) (h₀ := X.base) I.ok.mod.kin hm.kp hall (thn (ha.run pos pins s1 σ H1 _ I1 q) fun us s2 ⟨vs, H2, I2, r, q2⟩ => ?_) hpl hst
  refine thn (hkw.run pos pins s2 σ H2 _ I2 q2) fun ws s3 ⟨zs, H3, I3, rz, l1, l2, q3⟩ => ⟨I3.kIn, ?_⟩
  rw [hks]
  exact run_fnN (us := .ref a :: us) (vs := .ref a :: vs) F hr hb hx I3 (.cons rfl r) rz (by simp [l1]) l2 q3
/-- the receiver: an object of class c without a field m -/
def isObj (c : Nat) (m : Str) : D → Bool
  | .obj _ c' fs _ => decide (c' = c) && decide (m ∉ fs)
  | _ => false
theorem lookup_none {fs : List Str} {vs : List V} {m : Str} (h : m ∉ fs) : (fs.zip vs).lookup m = none := by
  induction fs generalizing vs with
  | nil => rfl
  | cons f fs ih =>
    cases vs with
    | nil => rfl
    | cons v vs =>
      rw [List.zip_cons_cons, List.lookup_cons]
      have h1 : (m == f) = false := by simp; exact fun e => h (by simp [e])
      rw [h1]
      exact ih fun z => h (by simp [z])
theorem isObj_view {K : PySem.W.Frag} {B H : Hp} {c : Nat} {d : D} {v : V} {fp : List Addr} (h : isObj c m d = true) (s : BLe B H) (r : Rep K cl B H d v fp) : ∃ a dx fs, v = .ref a ∧ H a = some (.ins (cl c) dx fs) ∧ fs.lookup m = none := by
  unfold isObj at h
  split at h
  · rename_i mm c' fs ds
    simp only [Bool.and_eq_true, decide_eq_true_eq] at h
    obtain ⟨a, dx, vs, fq, e, q, _, _⟩ := r.obj_view s
    rw [h.1] at q
    exact ⟨a, dx, _, e, q, lookup_none h.2⟩
  · cases h
def mRecv (c : Nat) (m : Str) (me : Ev → Option D) (ms : Ev → Option (List D)) : Ev → Option (List D) := fun A => (me A).bind fun d => if isObj c m d = true then (ms A).map (d :: ·) else none
theorem ev_meth {c : Nat} (hC : Cls X.K (cl c)) (hM : Meth X.K (cl c) m f) (F : FnOk X.prog X.w X.K X.mg X.base CX0 k f fd ps (SpF X.K cl [] ps.length g)) (hr : Room k X.A) (hb : KBs X.K fd ps (n + 1) ks src cs cvs) (har : Ar ps.length g)
    (ho : EvV X cl o me) (ha : EvA X cl (e :: es) ms) (hkw : EvK X cl kws mk) (hn : ∀ A ds, ms A = some ds → ds.length = n) (hz : ∀ A ds, mk A = some ds → ds.length = ks.length)
    (hall : (backToKw pos (keywordEach kws X.env)).all (·.1.isSome) = true := by rfl) (hks : (backToKw pos (keywordEach kws X.env)).filterMap (·.1) = ks := by rfl)
    (he : starEach (e :: es) X.env = (false, eval e X.env) :: starEach es X.env := by rfl)
    (hpl : ((backTo pos (starEach (e :: es) X.env)).any (·.1) || (backToKw pos (keywordEach kws X.env)).any (·.1.isNone)) = false := by rfl)
    (ht : eval (.Call (.Attribute o m apos) (e :: es) kws pos) X.env = (do
      let ov ← eval o X.env
      standAt apos.atName
      let (f, first) ← holding [ov] (getMethod ov m pl)
      callWith pos f first (backTo pos (starEach (e :: es) X.env)) (backToKw pos (keywordEach kws X.env))) := by rfl) :
    EvD X cl (.Call (.Attribute o m apos) (e :: es) kws pos) (mPure g src cs (mRecv c m me ms) mk) := by
  obtain ⟨t0, p0, r0⟩ := ho
  obtain ⟨t, pa, r⟩ := ha
  obtain ⟨t2, pk, r2⟩ := hkw
  obtain ⟨cu, kb⟩ := hb.kb
  refine ⟨_, pe_methN p0 hC hM F hr kb pass0 pa pk hall hks he hpl ht, fun σ A B H R d h Q q => ?_⟩
  obtain ⟨ds, zs, A', h1, h2, h3, h4⟩ := mPure_some h
  unfold mRecv at h1
  simp only [Option.bind_eq_some_iff] at h1
  obtain ⟨d0, h1, h5⟩ := h1
  split at h5
  · rename_i hio
    simp only [Option.map_eq_some_iff] at h5
    obtain ⟨ds1, h6, rfl⟩ := h5
    refine r0 σ A B H R d0 h1 _ fun v0 B0 H0 f0 n0 q0 => ?_
    obtain ⟨a, dx, fs, e1, e2, e3⟩ := isObj_view hio n0.sub q0
    refine ⟨a, dx, fs, e1, e2, e3, ?_⟩
    refine r σ A B0 H0 (R.news n0) ds1 h6 _ fun vs B1 H1 f1 n1 q1 => ?_
    refine r2 σ A B1 H1 ((R.news n0).news n1) zs h2 _ fun kvs B2 H2 f2 n2 q2 => ?_
    refine ⟨by rw [← q1.length]; exact hn A ds1 h6, by rw [← q2.length]; exact hz A zs h2, ?_⟩
    have nn := n0.trans (n1.trans n2)
    exact pure_core rfl n2.sub (repL_cons (q0.news (n1.trans n2)) (q1.news n2)) q2 hb.rep h3 (har _ _ h3) h4 fun v B3 H3 fq n3 r3 f3 => q v B3 H3 fq (nn.trans n3) r3 (fresh_trans nn f3)
  · cases h5
end
end VI
set_option Elab.async false
set_option linter.all false
set_option maxRecDepth 100000
set_option autoImplicit false
namespace VI
open PySem L2
/-! ### owned nodes by their way from the top -/
def childs : D → Option (List D)
  | .lst true xs => some xs
  | .dct true _ xs => some xs
  | .dtt true _ xs => some xs
  | .obj true _ _ xs => some xs
  | _ => none
def reChild : D → List D → D
  | .lst m _, ys => .lst m ys
  | .dct m ks _, ys => .dct m ks ys
  | .dtt m ks _, ys => .dtt m ks ys
  | .obj m c fs _, ys => .obj m c fs ys
  | d, _ => d
def getP : D → List Nat → Option D
  | d, [] => some d
  | d, j :: π => (childs d).bind fun xs => xs[j]?.bind fun e => getP e π
def setP : D → List Nat → D → D
  | _, [], e => e
  | d, j :: π, e => match childs d with
    | some xs => (match xs[j]? with
      | some x => reChild d (xs.set j (setP x π e))
      | none => d)
    | none => d
def kid (H : Hp) (v : V) (j : Nat) : Option V := match v with
  | .ref a => (match H a with
    | some (.lst vs) => vs[j]?
    | some (.dK kvs) => (kvs[j]?).map (·.2)
    | some (.dT kvs) => (kvs[j]?).map (·.2)
    | some (.ins _ _ fs) => (fs[j]?).map (·.2)
    | _ => none)
  | _ => none
def walk (H : Hp) : V → List Nat → Option V
  | v, [] => some v
  | v, j :: π => (kid H v j).bind fun w => walk H w π
section
variable {K : PySem.W.Frag} {cl : Nat → Addr} {G : GS} {B H B' H' : Hp} {σ σ' : St} {A A' : Ev} {F F' : Nat → List Addr} {d e0 : D} {ds xs : List D} {v u : V} {vs : List V} {fp : List Addr}
theorem kid_mono (ex : ∀ a o, H a = some o → H' a = some o) {j : Nat} (h : kid H v j = some u) : kid H' v j = some u := by
  unfold kid at h ⊢
  cases v <;> simp only at h ⊢ <;> try (cases h; done)
  rename_i a
  cases q : H a with
  | none => rw [q] at h; cases h
  | some o => rw [q] at h; rw [ex a o q]; exact h
theorem walk_mono (ex : ∀ a o, H a = some o → H' a = some o) : ∀ {π : List Nat} {v : V}, walk H v π = some u → walk H' v π = some u
  | [], v, h => h
  | j :: π, v, h => by
    unfold walk at h ⊢
    simp only [Option.bind_eq_some_iff] at h ⊢
    obtain ⟨w, h1, h2⟩ := h
    exact ⟨w, kid_mono ex h1, walk_mono ex h2⟩
theorem walk_append : ∀ {π ρ : List Nat} {v : V}, walk H v (π ++ ρ) = (walk H v π).bind fun w => walk H w ρ
  | [], ρ, v => rfl
  | j :: π, ρ, v => by
    simp only [List.cons_append, walk]
    cases kid H v j with
    | none => rfl
    | some w => exact walk_append
theorem getP_append : ∀ {π ρ : List Nat} {d : D}, getP d (π ++ ρ) = (getP d π).bind fun w => getP w ρ
  | [], ρ, d => rfl
  | j :: π, ρ, d => by
    simp only [List.cons_append, getP]
    cases childs d with
    | none => rfl
    | some xs =>
      simp only [Option.bind_some]
      cases xs[j]? with
      | none => rfl
      | some x => exact getP_append
theorem RepL.foc : ∀ {ds : List D} {vs : List V} {fp : List Addr}, RepL K cl B H ds vs fp → ∀ {j : Nat} {x : D}, ds[j]? = some x → ∃ w l f r, vs[j]? = some w ∧ fp = l ++ f ++ r ∧ Rep K cl B H x w f ∧
    ∀ (B' H' : Hp) (x' : D) (w' : V) (f' : List Addr), BLe B B' → (∀ a ∈ l ++ r, H' a = H a) → Rep K cl B' H' x' w' f' → RepL K cl B' H' (ds.set j x') (vs.set j w') (l ++ f' ++ r)
  | [], _, _, _, j, x, e => by simp at e
  | d :: ds, _, _, h, j, x, e => by
    simp only [RepL] at h
    obtain ⟨v, vr, f1, f2, e1, e2, r, rr⟩ := h
    subst e1 e2
    cases j with
    | zero =>
      simp at e; subst e
      refine ⟨v, [], f1, f2, rfl, by simp, r, fun B' H' x' w' f' b hs q => ?_⟩
      simp only [List.set_cons_zero, List.nil_append]
      exact repL_cons q (rr.mono b fun a z => hs a (by simp [z]))
    | succ j =>
      obtain ⟨w, l, f, r', q1, q2, q3, q4⟩ := RepL.foc rr (j := j) (by simpa using e)
      subst q2
      refine ⟨w, f1 ++ l, f, r', by simpa using q1, by simp, q3, fun B' H' x' w' f' b hs q => ?_⟩
      simp only [List.set_cons_succ]
      have := repL_cons (r.mono b fun a z => hs a (by simp [z])) (q4 B' H' x' w' f' b (fun a z => hs a (by rcases List.mem_append.mp z with z | z <;> simp [z])) q)
      simpa using this
theorem zip_snd {α : Type} : ∀ {ks : List α} {vs : List V} (h : ks.length = vs.length) (j : Nat), ((ks.zip vs)[j]?).map (·.2) = vs[j]?
  | [], [], _, j => rfl
  | [], _ :: _, h, _ => by simp at h
  | _ :: _, [], h, _ => by simp at h
  | k :: ks, v :: vs, h, 0 => rfl
  | k :: ks, v :: vs, h, j + 1 => by simpa using zip_snd (ks := ks) (vs := vs) (by simpa using h) j
theorem Rep.node (h : Rep K cl B H d v fp) (hc : childs d = some xs) : ∃ a vs fq, v = .ref a ∧ fp = a :: fq ∧ RepL K cl B H xs vs fq ∧ (∀ j, kid H v j = vs[j]?) ∧
    ∀ (B' H' : Hp) (ys : List D) (gq : List Addr), H' a = H a → ys.length = xs.length → RepL K cl B' H' ys vs gq → Rep K cl B' H' (reChild d ys) v (a :: gq) := by
  cases d <;> simp only [childs] at hc <;> try (cases hc; done)
  case lst m ds =>
    cases m <;> simp only [childs] at hc <;> cases hc
    simp only [Rep] at h
    obtain ⟨a, vs, fq, e, q, r, e2⟩ := h
    refine ⟨a, vs, fq, e, e2, r, fun j => by subst e; simp only [kid, q], fun B' H' ys gq hs hl rr => ?_⟩
    simp only [reChild, Rep]
    exact ⟨a, vs, gq, e, hs.trans q, rr, rfl⟩
  case dct m ks ds =>
    cases m <;> simp only [childs] at hc <;> cases hc
    simp only [Rep] at h
    obtain ⟨a, vs, fq, e, q, l, r, e2⟩ := h
    refine ⟨a, vs, fq, e, e2, r, fun j => by subst e; simp only [kid, q]; exact zip_snd (l.trans r.length) j, fun B' H' ys gq hs hl rr => ?_⟩
    simp only [reChild, Rep]
    exact ⟨a, vs, gq, e, hs.trans q, by rw [hl]; exact l, rr, rfl⟩
  case dtt m ks ds =>
    cases m <;> simp only [childs] at hc <;> cases hc
    simp only [Rep] at h
    obtain ⟨a, vs, fq, e, q, l, r, e2⟩ := h
    refine ⟨a, vs, fq, e, e2, r, fun j => by subst e; simp only [kid, q]; exact zip_snd (l.trans r.length) j, fun B' H' ys gq hs hl rr => ?_⟩
    simp only [reChild, Rep]
    exact ⟨a, vs, gq, e, hs.trans q, by rw [hl]; exact l, rr, rfl⟩
  case obj m c fs ds =>
    cases m <;> simp only [childs] at hc <;> cases hc
    simp only [Rep] at h
    obtain ⟨a, dx, vs, fq, e, q, l, r, e2⟩ := h
    refine ⟨a, vs, fq, e, e2, r, fun j => by subst e; simp only [kid, q]; exact zip_snd (l.trans r.length) j, fun B' H' ys gq hs hl rr => ?_⟩
    simp only [reChild, Rep]
    exact ⟨a, dx, vs, gq, e, hs.trans q, by rw [hl]; exact l, rr, rfl⟩
/-- the node at a way: where it stands, and the tree with another node there -/
theorem Rep.focus : ∀ {π : List Nat} {d : D} {v : V} {fp : List Addr} {e0 : D}, Rep K cl B H d v fp → getP d π = some e0 → ∃ u l f r, walk H v π = some u ∧ fp = l ++ f ++ r ∧ Rep K cl B H e0 u f ∧
    ∀ (B' H' : Hp) (e' : D) (f' : List Addr), BLe B B' → (∀ a ∈ l ++ r, H' a = H a) → Rep K cl B' H' e' u f' → Rep K cl B' H' (setP d π e') v (l ++ f' ++ r)
  | [], d, v, fp, e0, h, e => by
    cases e
    exact ⟨v, [], fp, [], rfl, by simp, h, fun B' H' e' f' _ _ q => by simpa [setP] using q⟩
  | j :: π, d, v, fp, e0, h, e => by
    simp only [getP, Option.bind_eq_some_iff] at e
    obtain ⟨xs, hc, x, hx, hg⟩ := e
    obtain ⟨a, vs, fq, e1, e2, r1, hk, hre⟩ := h.node hc
    obtain ⟨w, l, f, r, q1, q2, q3, q4⟩ := r1.foc hx
    obtain ⟨u, l2, f2, r2, w1, w2, w3, w4⟩ := Rep.focus q3 hg
    subst e2 q2 w2
    refine ⟨u, a :: (l ++ l2), f2, r2 ++ r, ?_, by simp, w3, fun B' H' e' f' b hs q => ?_⟩
    · simp only [walk, hk, q1, Option.bind_some]; exact w1
    · have s1 := w4 B' H' e' f' b (fun c z => hs c (by rcases List.mem_append.mp z with z | z <;> simp [z])) q
      have s2 := q4 B' H' _ w _ b (fun c z => hs c (by rcases List.mem_append.mp z with z | z <;> simp [z])) s1
      have e3 : vs.set j w = vs := by
        apply List.ext_getElem?
        intro i
        by_cases hi : i = j
        · subst hi
          have := (List.getElem?_eq_some_iff.mp q1).1
          rw [List.getElem?_set_self this]; exact q1.symm
        · rw [List.getElem?_set_ne (Ne.symm hi)]
      rw [e3] at s2
      have s3 := hre B' H' _ _ (hs a (by simp)) (by simp) s2
      simp only [setP, hc, hx]
      simpa using s3
/-! ### a node is changed -/
theorem BLe.upd_out {a : Addr} {o : HO} (s : BLe B H) (h : B a = none) : BLe B (upd H a o) := by
  have ne : ∀ {p : Addr} {u : HO}, B p = some u → p ≠ a := fun e1 e2 => by rw [e2, h] at e1; cases e1
  refine ⟨fun p u r => ?_, fun p C dx fs e => by rw [upd_ne (ne e)]; exact s.ins _ _ _ _ e, fun p vs e => by rw [upd_ne (ne e)]; exact s.lst _ _ e, fun p vs e => by rw [upd_ne (ne e)]; exact s.tup _ _ e⟩
  have hp : p ≠ a := by
    rcases r with r | ⟨w, r⟩
    · exact ne r
    · exact ne r
  rcases s.rd p u r with q | ⟨w, q⟩
  · exact .inl (by rw [upd_ne hp]; exact q)
  · exact .inr ⟨w, by rw [upd_ne hp]; exact q⟩
def updP (A : Ev) (i : Nat) (π : List Nat) (e' : D) : Ev := match A[i]? with
  | some (some d) => A.set i (some (setP d π e'))
  | _ => A
/-- the node at a way of a name's tree is changed in the heap: at a, its own object; what it holds then: what it held, and fy -/
theorem Good.change {i : Nat} {π : List Nat} (g : Good K cl G B H σ A F) (hA : A[i]? = some (some d)) (hg : getP d π = some e0) (hv : σ[i]? = some (some v)) (hw : walk H v π = some u) :
    ∃ f, Rep K cl B H e0 u f ∧ f.Nodup ∧ (∀ a ∈ f, a ∈ F i) ∧ ∀ (a : Addr) (o : HO) (e' : D) (f' fy : List Addr), a ∈ f → ownable o = true → Own G B F fy → f'.Nodup → (∀ b ∈ f', b ∈ f ∨ b ∈ fy) → Rep K cl B (upd H a o) e' u f' →
      ∃ F', Good K cl G B (upd H a o) σ (updP A i π e') F' := by
  obtain ⟨v', hv', r⟩ := g.at_ i d hA
  rw [hv] at hv'
  cases hv'
  obtain ⟨u', l, f, rr, w1, w2, w3, w4⟩ := r.focus hg
  rw [hw] at w1
  cases w1
  have hnd : (l ++ f ++ rr).Nodup := w2 ▸ g.nd i
  have hin : ∀ a ∈ f, a ∈ F i := fun a z => by rw [w2]; simp [z]
  refine ⟨f, w3, (hnd.sublist (by simp)), hin, fun a o e' f' fy ha ho wy nd' hsub rep => ?_⟩
  have haF : a ∈ F i := hin a ha
  have hBa : B a = none := g.nb i a haF
  have hout : ∀ b ∈ l ++ rr, b ≠ a := fun b z e => by
    subst e
    rw [List.append_assoc, List.nodup_append] at hnd
    obtain ⟨_, h2, h3⟩ := hnd
    rw [List.nodup_append] at h2
    rcases List.mem_append.mp z with z | z
    · exact h3 b z b (by simp [ha]) rfl
    · exact h2.2.2 b ha b z rfl
  have newRep := w4 B (upd H a o) e' f' (BLe.refl B) (fun b z => upd_ne (hout b z)) rep
  have hFi : ∀ b ∈ l ++ f' ++ rr, b ∈ F i ∨ b ∈ fy := fun b z => by
    rw [w2]
    rcases List.mem_append.mp z with z | z
    · rcases List.mem_append.mp z with z | z
      · exact .inl (by simp [z])
      · exact (hsub b z).imp (fun h => by simp [h]) id
    · exact .inl (by simp [z])
  have e1 : updP A i π e' = A.set i (some (setP d π e')) := by simp only [updP, hA]
  rw [e1]
  have hi : i < A.length := (List.getElem?_eq_some_iff.mp hA).1
  refine ⟨setF F i (l ++ f' ++ rr), ?_⟩
  refine ⟨g.sub.upd_out hBa, by rw [List.length_set]; exact g.len, fun j d' e => ?_, fun j e => ?_, fun j => ?_, fun j k hjk b z y => ?_, fun j b z => ?_, g.le0, fun b ob hb hs => ?_, fun j b z => ?_, g.bnew, g.keep, fun p hp => ?_⟩
  · by_cases h : j = i
    · subst h
      rw [List.getElem?_set_self hi] at e; cases e
      rw [setF_same]; exact ⟨v, hv, newRep⟩
    · rw [List.getElem?_set_ne (Ne.symm h)] at e
      rw [setF_ne h]
      obtain ⟨w, h1, h2⟩ := g.at_ j d' e
      exact ⟨w, h1, h2.mono (BLe.refl B) fun b z => upd_ne fun q => g.dis i j (Ne.symm h) a haF (q ▸ z)⟩
  · by_cases h : j = i
    · subst h; exact absurd (List.getElem?_set_self hi) (e _)
    · rw [setF_ne h]; exact g.emp j fun d' q => e d' (by rw [List.getElem?_set_ne (Ne.symm h)]; exact q)
  · by_cases h : j = i
    · subst h; rw [setF_same]
      rw [List.append_assoc, List.nodup_append] at hnd ⊢
      obtain ⟨h1, h2, h3⟩ := hnd
      rw [List.nodup_append] at h2 ⊢
      have dl : ∀ b ∈ l, b ∈ F j := fun b z => by rw [w2]; simp [z]
      have dr : ∀ b ∈ rr, b ∈ F j := fun b z => by rw [w2]; simp [z]
      refine ⟨h1, ⟨nd', h2.2.1, fun b zb c zc e => ?_⟩, fun b zb c zc e => ?_⟩
      · subst e
        rcases hsub b zb with q | q
        · exact h2.2.2 b q b zc rfl
        · exact wy.dis j b q (dr b zc)
      · subst e
        rcases List.mem_append.mp zc with z | z
        · rcases hsub b z with q | q
          · exact h3 b zb b (by simp [q]) rfl
          · exact wy.dis j b q (dl b zb)
        · exact h3 b zb b (by simp [z]) rfl
    · rw [setF_ne h]; exact g.nd j
  · by_cases h : j = i
    · subst h; rw [setF_same] at z; rw [setF_ne (Ne.symm hjk)] at y
      rcases hFi b z with q | q
      · exact g.dis j k hjk b q y
      · exact wy.dis k b q y
    · rw [setF_ne h] at z
      by_cases h2 : k = i
      · subst h2; rw [setF_same] at y
        rcases hFi b y with q | q
        · exact g.dis j k hjk b z q
        · exact wy.dis j b q z
      · rw [setF_ne h2] at y; exact g.dis j k hjk b z y
  · by_cases h : j = i
    · subst h; rw [setF_same] at z
      rcases hFi b z with q | q
      · exact g.nb j b q
      · exact wy.nb b q
    · rw [setF_ne h] at z; exact g.nb j b z
  · by_cases h : b = a
    · subst h
      rcases g.own i b haF with q | q
      · exact absurd q hs
      · rw [hb] at q; cases q
    · rw [upd_ne h]; exact g.fr b ob hb hs
  · by_cases h : j = i
    · subst h; rw [setF_same] at z
      rcases hFi b z with q | q
      · exact g.own j b q
      · exact wy.own b q
    · rw [setF_ne h] at z; exact g.own j b z
  · by_cases h : p.1 = a
    · have h1 := g.lkd p hp
      obtain ⟨ob, h2, h3⟩ := w3.stand' a ha
      rw [h, h2] at h1; cases h1; cases h3
    · rw [upd_ne h]; exact g.lkd p hp
end
/-! ### places in the text -/
abbrev Pl := Ev → Option (Nat × List Nat × D)
/-- an expression that names a place: slot, way, the node that stands there -/
def EvP (X : Cx) (cl : Nat → Addr) (e : Expr) (p : Pl) : Prop := ∃ t : TE, PE X e t ∧ ∀ σ A B H, REnv X.K cl B H σ A → ∀ i π e0, p A = some (i, π, e0) → ∃ d v u, A[i]? = some (some d) ∧ getP d π = some e0 ∧ σ[i]? = some (some v) ∧ walk H v π = some u ∧
  ∀ Q : VK, (∀ B' H', New B H B' H' → Q u H') → t σ H Q
section
variable {X : Cx} {cl : Nat → Addr} {mu : List Nat} {e o : Expr} {es : List Expr} {me mk : Ev → Option D} {pos : Pos} {p : Pl}
def pN (i : Nat) : Pl := fun A => match A[i]? with
  | some (some d) => some (i, [], d)
  | _ => none
theorem ep_name {i : Nat} (h : PE X e (tVar i)) : EvP X cl e (pN i) := by
  refine ⟨_, h, fun σ A B H R j π e0 hd => ?_⟩
  unfold pN at hd
  split at hd
  · rename_i d hA
    simp only [Option.some.injEq, Prod.mk.injEq] at hd
    obtain ⟨h1, h2, h3⟩ := hd
    subst h1 h2 h3
    obtain ⟨v, fp, e1, r⟩ := R.at_ i d hA
    exact ⟨d, v, v, hA, rfl, e1, rfl, fun Q q => ⟨v, e1, q B H (New.refl R.sub)⟩⟩
  · cases hd
/-- a field on the way -/
def pFld (c : Nat) (f : Str) (p : Pl) : Pl := fun A => match p A with
  | some (i, π, .obj true c' fs xs) => if c' = c then (match fs.idxOf? f with
    | some j => (xs[j]?).map fun e => (i, π ++ [j], e)
    | none => none) else none
  | _ => none
theorem idx_lookup {f : Str} : ∀ {fs : List Str} {vs : List V} {j : Nat}, fs.length = vs.length → fs.idxOf? f = some j → ∃ w, (fs.zip vs).lookup f = some w ∧ vs[j]? = some w
  | [], _, j, _, h => by simp at h
  | g :: fs, [], j, l, h => by simp at l
  | g :: fs, v :: vs, j, l, h => by
    rw [List.idxOf?_cons] at h
    rw [List.zip_cons_cons, List.lookup_cons]
    by_cases hg : g = f
    · subst hg
      simp at h; subst h
      exact ⟨v, by simp, rfl⟩
    · have h1 : (g == f) = false := by simpa using hg
      have h2 : (f == g) = false := by simpa using fun e => hg e.symm
      rw [h1] at h
      simp only [Bool.false_eq_true, if_false, Option.map_eq_some_iff] at h
      obtain ⟨k, h3, rfl⟩ := h
      obtain ⟨w, q1, q2⟩ := idx_lookup (vs := vs) (by simpa using l) h3
      exact ⟨w, by rw [h2]; exact q1, by simpa using q2⟩
theorem ep_fld {c : Nat} {f : Str} (hC : Cls X.K (cl c)) (hN : NoAttr X.K (cl c) f) (h : EvP X cl e p) (hb : attributeBase e f X.env (eval e X.env) = eval e X.env := by rfl) : EvP X cl (.Attribute e f pos) (pFld c f p) := by
  obtain ⟨t, pe, r⟩ := h
  refine ⟨_, pe_fld pe hb, fun σ A B H R i π e0 hd => ?_⟩
  unfold pFld at hd
  split at hd
  · rename_i i' π' c' fs xs hp
    split at hd
    · rename_i hc
      subst hc
      split at hd
      · rename_i j hj
        simp only [Option.map_eq_some_iff] at hd
        obtain ⟨e1, hx, hd⟩ := hd
        cases hd
        obtain ⟨d, v, u, hA, hg, hv, hw, hq⟩ := r σ A B H R _ _ _ hp
        obtain ⟨v', fp, hv', rp⟩ := R.at_ _ d hA
        rw [hv] at hv'
        cases hv'
        obtain ⟨u', l, f1, rr, w1, w2, w3, w4⟩ := rp.focus hg
        rw [hw] at w1
        cases w1
        have w3' := w3
        simp only [Rep] at w3
        obtain ⟨a, dx, vs, fq, ea, q1, ll, q2, _⟩ := w3
        obtain ⟨w, k1, k2⟩ := idx_lookup (ll.trans q2.length) hj
        refine ⟨d, v, w, hA, ?_, hv, ?_, fun Q q => hq _ fun B' H' n => ?_⟩
        · rw [getP_append, hg]; simp [getP, childs, hx]
        · rw [walk_append, hw]
          simp only [Option.bind_some, walk, kid, ea, q1]
          rw [zip_snd (ll.trans q2.length), k2]; rfl
        · exact ⟨a, _, dx, _, w, ea, n.ex _ _ q1, hC, hN, k1, q B' H' n⟩
      · cases hd
    · cases hd
  · cases hd
end
end VI
set_option Elab.async false
set_option linter.all false
set_option maxRecDepth 100000
set_option autoImplicit false
namespace VI
open PySem L2
section
variable {K : PySem.W.Frag} {cl : Nat → Addr} {G : GS} {B H B' H' : Hp} {σ σ' : St} {A A' : Ev} {F F' : Nat → List Addr} {d e0 : D} {ds xs : List D} {v u : V} {vs : List V} {fp : List Addr}
theorem RepL.off {a : Addr} {o : HO} (r : RepL K cl B H ds vs fp) (h : a ∉ fp) : RepL K cl B (upd H a o) ds vs fp := r.mono (BLe.refl B) fun b z => upd_ne fun e => h (e ▸ z)
/-- what a place's node gives: shared by all containers -/
structure Nd (K : PySem.W.Frag) (cl : Nat → Addr) (G : GS) (B H : Hp) (σ : St) (A : Ev) (F : Nat → List Addr) (i : Nat) (π : List Nat) (a : Addr) (vs : List V) (xs : List D) (fq : List Addr) : Prop where
  rep : RepL K cl B H xs vs fq
  nd : fq.Nodup
  off : ∀ fy, Own G B F fy → (∀ b ∈ fy, b ∉ fq) ∧ a ∉ fy
  put : ∀ (o : HO) (e' : D) (gq fy : List Addr), ownable o = true → Own G B F fy → gq.Nodup → (∀ b ∈ gq, b ∈ fq ∨ b ∈ fy) → (∀ H', H' a = some o → (∀ b ∈ gq, H' b = H b) → Rep K cl B H' e' (.ref a) (a :: gq)) → ∃ F', Good K cl G B (upd H a o) σ (updP A i π e') F'
theorem Good.nd_ {i : Nat} {π : List Nat} (g : Good K cl G B H σ A F) (hA : A[i]? = some (some d)) (hg : getP d π = some e0) (hv : σ[i]? = some (some v)) (hw : walk H v π = some u) :
    ∃ f, Rep K cl B H e0 u f ∧ ∀ a fq vs xs, u = .ref a → f = a :: fq → RepL K cl B H xs vs fq → Nd K cl G B H σ A F i π a vs xs fq := by
  obtain ⟨f, r, nd, hin, hch⟩ := g.change hA hg hv hw
  refine ⟨f, r, fun a fq vs xs e1 e2 e3 => ?_⟩
  subst e1 e2
  refine ⟨e3, (List.nodup_cons.mp nd).2, fun fy wy => ⟨fun b z q => wy.dis i b z (hin b (List.mem_cons_of_mem _ q)), fun z => wy.dis i a z (hin a (List.mem_cons_self ..))⟩, fun o e' gq fy ho wy nd' hs hr => ?_⟩
  have hag : a ∉ gq := fun z => by
    rcases hs a z with q | q
    · exact (List.nodup_cons.mp nd).1 q
    · exact wy.dis i a q (hin a (List.mem_cons_self ..))
  refine hch a o e' (a :: gq) fy (List.mem_cons_self ..) ho wy (List.nodup_cons.mpr ⟨hag, nd'⟩) (fun b z => ?_) (hr _ upd_same fun b z => upd_ne fun e => hag (e ▸ z))
  rcases List.mem_cons.mp z with rfl | z
  · exact .inl (List.mem_cons_self ..)
  · exact (hs b z).imp (List.mem_cons_of_mem _) id
theorem Good.lstN {i : Nat} {π : List Nat} (g : Good K cl G B H σ A F) (hA : A[i]? = some (some d)) (hg : getP d π = some (.lst true xs)) (hv : σ[i]? = some (some v)) (hw : walk H v π = some u) :
    ∃ a vs fq, u = .ref a ∧ H a = some (.lst vs) ∧ Nd K cl G B H σ A F i π a vs xs fq := by
  obtain ⟨f, r, h⟩ := g.nd_ hA hg hv hw
  simp only [Rep] at r
  obtain ⟨a, vs, fq, e1, e2, e3, e4⟩ := r
  exact ⟨a, vs, fq, e1, e2, h a fq vs xs e1 e4 e3⟩
theorem Good.dctN {i : Nat} {π : List Nat} {ks : List Key} (g : Good K cl G B H σ A F) (hA : A[i]? = some (some d)) (hg : getP d π = some (.dct true ks xs)) (hv : σ[i]? = some (some v)) (hw : walk H v π = some u) :
    ∃ a vs fq, u = .ref a ∧ H a = some (.dK (ks.zip vs)) ∧ ks.length = xs.length ∧ Nd K cl G B H σ A F i π a vs xs fq := by
  obtain ⟨f, r, h⟩ := g.nd_ hA hg hv hw
  simp only [Rep] at r
  obtain ⟨a, vs, fq, e1, e2, l, e3, e4⟩ := r
  exact ⟨a, vs, fq, e1, e2, l, h a fq vs xs e1 e4 e3⟩
theorem Good.dttN {i : Nat} {π : List Nat} {ks : List (List Key)} (g : Good K cl G B H σ A F) (hA : A[i]? = some (some d)) (hg : getP d π = some (.dtt true ks xs)) (hv : σ[i]? = some (some v)) (hw : walk H v π = some u) :
    ∃ a vs fq, u = .ref a ∧ H a = some (.dT (ks.zip vs)) ∧ ks.length = xs.length ∧ Nd K cl G B H σ A F i π a vs xs fq := by
  obtain ⟨f, r, h⟩ := g.nd_ hA hg hv hw
  simp only [Rep] at r
  obtain ⟨a, vs, fq, e1, e2, l, e3, e4⟩ := r
  exact ⟨a, vs, fq, e1, e2, l, h a fq vs xs e1 e4 e3⟩
theorem Good.objN {i : Nat} {π : List Nat} {c : Nat} {fs : List Str} (g : Good K cl G B H σ A F) (hA : A[i]? = some (some d)) (hg : getP d π = some (.obj true c fs xs)) (hv : σ[i]? = some (some v)) (hw : walk H v π = some u) :
    ∃ a dx vs fq, u = .ref a ∧ H a = some (.ins (cl c) dx (fs.zip vs)) ∧ fs.length = xs.length ∧ Nd K cl G B H σ A F i π a vs xs fq := by
  obtain ⟨f, r, h⟩ := g.nd_ hA hg hv hw
  simp only [Rep] at r
  obtain ⟨a, dx, vs, fq, e1, e2, l, e3, e4⟩ := r
  exact ⟨a, dx, vs, fq, e1, e2, l, h a fq vs xs e1 e4 e3⟩
section
variable {i : Nat} {π : List Nat} {a : Addr} {fq fy : List Addr} {y : V} {dy : D} {ys : List D} {ws : List V}
theorem nodup_app (h1 : fq.Nodup) (h2 : fy.Nodup) (h3 : ∀ b ∈ fy, b ∉ fq) : (fq ++ fy).Nodup := List.nodup_append.mpr ⟨h1, h2, fun b z c z2 e => h3 c z2 (e ▸ z)⟩
theorem mem_app {b : Addr} (z : b ∈ fq ++ fy) : b ∈ fq ∨ b ∈ fy := List.mem_append.mp z
/-- the list gets plain items -/
theorem Nd.lstSet (n : Nd K cl G B H σ A F i π a vs xs fq) (r : RepL K cl B H ys ws []) : ∃ F', Good K cl G B (upd H a (.lst ws)) σ (updP A i π (.lst true ys)) F' :=
  n.put (.lst ws) (.lst true ys) [] [] rfl Own.nil List.nodup_nil (fun _ z => nomatch z) fun H' e hs => by
    simp only [Rep]
    exact ⟨a, ws, [], rfl, e, r.mono (BLe.refl B) hs, rfl⟩
theorem Nd.lstApp (n : Nd K cl G B H σ A F i π a vs xs fq) (r : Rep K cl B H dy y fy) (w : Own G B F fy) : ∃ F', Good K cl G B (upd H a (.lst (vs ++ [y]))) σ (updP A i π (.lst true (xs ++ [dy]))) F' := by
  refine n.put (.lst (vs ++ [y])) (.lst true (xs ++ [dy])) (fq ++ fy) fy rfl w (nodup_app n.nd w.nd (n.off fy w).1) (fun b z => mem_app z) fun H' e hs => ?_
  simp only [Rep]
  refine ⟨a, _, fq ++ fy, rfl, e, ?_, rfl⟩
  have := RepL.append n.rep (repL_cons r repL_nil)
  rw [List.append_nil] at this
  exact this.mono (BLe.refl B) hs
/-- one item of a container is exchanged -/
theorem Nd.setj (n : Nd K cl G B H σ A F i π a vs xs fq) (r : Rep K cl B H dy y fy) (w : Own G B F fy) {j : Nat} {x : D} (hj : xs[j]? = some x) :
    ∃ gq, gq.Nodup ∧ (∀ b ∈ gq, b ∈ fq ∨ b ∈ fy) ∧ RepL K cl B H (xs.set j dy) (vs.set j y) gq := by
  obtain ⟨u, l, f, rr, q1, q2, q3, q4⟩ := n.rep.foc hj
  refine ⟨l ++ fy ++ rr, ?_, fun b z => ?_, q4 B H dy y fy (BLe.refl B) (fun _ _ => rfl) r⟩
  · have nd := n.nd
    rw [q2, List.append_assoc, List.nodup_append] at nd
    obtain ⟨h1, h2, h3⟩ := nd
    rw [List.nodup_append] at h2
    have off := (n.off fy w).1
    rw [List.append_assoc, List.nodup_append, List.nodup_append]
    refine ⟨h1, ⟨w.nd, h2.2.1, fun b zb c zc e => ?_⟩, fun b zb c zc e => ?_⟩
    · subst e; exact off b zb (by rw [q2]; simp [zc])
    · subst e
      rcases List.mem_append.mp zc with z | z
      · exact off b z (by rw [q2]; simp [zb])
      · exact h3 b zb b (by simp [z]) rfl
  · rw [q2]
    rcases List.mem_append.mp z with z | z
    · rcases List.mem_append.mp z with z | z
      · exact .inl (by simp [z])
      · exact .inr z
    · exact .inl (by simp [z])
theorem Nd.appj (n : Nd K cl G B H σ A F i π a vs xs fq) (r : Rep K cl B H dy y fy) (w : Own G B F fy) : (fq ++ fy).Nodup ∧ (∀ b ∈ fq ++ fy, b ∈ fq ∨ b ∈ fy) ∧ RepL K cl B H (xs ++ [dy]) (vs ++ [y]) (fq ++ fy) := by
  have := RepL.append n.rep (repL_cons r repL_nil)
  rw [List.append_nil] at this
  exact ⟨nodup_app n.nd w.nd (n.off fy w).1, fun b z => mem_app z, this⟩
end
end
/-! ### keys and fields put -/
/-- a table with k put: the key's own place, or behind -/
def putT {κ : Type} [DecidableEq κ] (ks : List κ) (xs : List D) (k : κ) (d : D) : List κ × List D := match ks.idxOf? k with
  | some j => (ks, xs.set j d)
  | none => (ks ++ [k], xs ++ [d])
theorem idxOf_none {κ : Type} [DecidableEq κ] {k : κ} : ∀ {ks : List κ}, ks.idxOf? k = none → k ∉ ks
  | [], _ => List.not_mem_nil
  | g :: ks, h => by
    rw [List.idxOf?_cons] at h
    by_cases hg : g = k
    · subst hg; simp at h
    · have h1 : (g == k) = false := by simpa using hg
      rw [h1] at h
      simp only [Bool.false_eq_true, if_false, Option.map_eq_none_iff] at h
      exact fun z => (List.mem_cons.mp z).elim (fun e => hg e.symm) (idxOf_none h)
theorem putK_none {κ : Type} [DecidableEq κ] {ks : List κ} {vs : List V} {k : κ} {y : V} (l : ks.length = vs.length) (h : ks.idxOf? k = none) : putK (ks.zip vs) k y = (ks ++ [k]).zip (vs ++ [y]) := by
  have hn := idxOf_none h
  unfold putK
  rw [if_neg, List.zip_append l]
  · rfl
  · simp only [List.any_eq_true, decide_eq_true_eq, not_exists, not_and]
    intro p hp e
    exact hn (e ▸ (List.of_mem_zip hp).1)
theorem map_put {κ : Type} [DecidableEq κ] {k : κ} {y : V} : ∀ {ks : List κ} {vs : List V}, k ∉ ks → (ks.zip vs).map (fun kv => if kv.1 = k then (kv.1, y) else kv) = ks.zip vs
  | [], _, _ => rfl
  | _ :: _, [], _ => rfl
  | g :: ks, v :: vs, h => by
    rw [List.zip_cons_cons, List.map_cons, map_put fun z => h (List.mem_cons_of_mem _ z), if_neg fun e => h (by simp [show g = k from e])]
theorem map_put_at {κ : Type} [DecidableEq κ] {k : κ} {y : V} : ∀ {ks : List κ} {vs : List V} {j : Nat}, ks.Nodup → ks.length = vs.length → ks.idxOf? k = some j → (ks.zip vs).map (fun kv => if kv.1 = k then (kv.1, y) else kv) = ks.zip (vs.set j y)
  | [], _, j, _, _, h => by simp at h
  | g :: ks, [], j, _, l, h => by simp at l
  | g :: ks, v :: vs, j, nd, l, h => by
    rw [List.idxOf?_cons] at h
    obtain ⟨n1, n2⟩ := List.nodup_cons.mp nd
    by_cases hg : g = k
    · subst hg
      simp at h; subst h
      rw [List.zip_cons_cons, List.map_cons, List.set_cons_zero, List.zip_cons_cons, map_put n1]; simp
    · have h1 : (g == k) = false := by simpa using hg
      rw [h1] at h
      simp only [Bool.false_eq_true, if_false, Option.map_eq_some_iff] at h
      obtain ⟨m, h3, rfl⟩ := h
      rw [List.zip_cons_cons, List.map_cons, List.set_cons_succ, List.zip_cons_cons, map_put_at n2 (by simpa using l) h3]
      simp [hg]
theorem putK_some {κ : Type} [DecidableEq κ] {ks : List κ} {vs : List V} {k : κ} {y : V} {j : Nat} (nd : ks.Nodup) (l : ks.length = vs.length) (h : ks.idxOf? k = some j) : putK (ks.zip vs) k y = ks.zip (vs.set j y) := by
  unfold putK
  rw [if_pos, map_put_at nd l h]
  simp only [List.any_eq_true, decide_eq_true_eq]
  clear nd
  induction ks generalizing vs j with
  | nil => simp at h
  | cons g ks ih =>
    cases vs with
    | nil => simp at l
    | cons v vs =>
      by_cases hg : g = k
      · exact ⟨(g, v), by simp, hg⟩
      · rw [List.idxOf?_cons] at h
        have h1 : (g == k) = false := by simpa using hg
        rw [h1] at h
        simp only [Bool.false_eq_true, if_false, Option.map_eq_some_iff] at h
        obtain ⟨m, h3, rfl⟩ := h
        obtain ⟨p, hp, e⟩ := ih (by simpa using l) h3
        exact ⟨p, by simp [hp], e⟩
theorem putF_none {fs : List Str} {vs : List V} {k : Str} {y : V} (l : fs.length = vs.length) (h : fs.idxOf? k = none) : putF k y (fs.zip vs) = (fs ++ [k]).zip (vs ++ [y]) := by
  have hn := idxOf_none h
  clear h
  induction fs generalizing vs with
  | nil => cases vs with
    | nil => rfl
    | cons _ _ => simp at l
  | cons g fs ih => cases vs with
    | nil => simp at l
    | cons v vs =>
      rw [List.zip_cons_cons, putF, if_neg fun e => hn (by simp [e]), ih (by simpa using l) fun z => hn (by simp [z])]
      rfl
theorem putF_some {fs : List Str} {vs : List V} {k : Str} {y : V} {j : Nat} (l : fs.length = vs.length) (h : fs.idxOf? k = some j) : putF k y (fs.zip vs) = fs.zip (vs.set j y) := by
  induction fs generalizing vs j with
  | nil => simp at h
  | cons g fs ih => cases vs with
    | nil => simp at l
    | cons v vs =>
      rw [List.idxOf?_cons] at h
      by_cases hg : g = k
      · subst hg
        simp at h; subst h
        rw [List.zip_cons_cons, putF, if_pos rfl]; rfl
      · have h1 : (g == k) = false := by simpa using hg
        rw [h1] at h
        simp only [Bool.false_eq_true, if_false, Option.map_eq_some_iff] at h
        obtain ⟨m, h3, rfl⟩ := h
        rw [List.zip_cons_cons, putF, if_neg hg, ih (by simpa using l) h3]; rfl
theorem idxOf_lt {κ : Type} [DecidableEq κ] {k : κ} : ∀ {ks : List κ} {j : Nat}, ks.idxOf? k = some j → j < ks.length
  | [], j, h => by simp at h
  | g :: ks, j, h => by
    rw [List.idxOf?_cons] at h
    by_cases hg : g = k
    · subst hg; simp at h; subst h; simp
    · have h1 : (g == k) = false := by simpa using hg
      rw [h1] at h
      simp only [Bool.false_eq_true, if_false, Option.map_eq_some_iff] at h
      obtain ⟨m, h3, rfl⟩ := h
      have := idxOf_lt h3
      simp; omega
end VI
set_option Elab.async false
set_option linter.all false
set_option maxRecDepth 100000
set_option autoImplicit false
namespace VI
open PySem L2
section
variable {X : Cx} {cl : Nat → Addr} {mu : List Nat} {e o : Expr} {es : List Expr} {me mk : Ev → Option D} {pos pos' : Pos} {p : Pl}
theorem Own.news {G : GS} {B H B' H' : Hp} {F : Nat → List Addr} {fy : List Addr} (w : Own G B F fy) (n : New B H B' H') (st : ∀ a ∈ fy, ∃ o, H a = some o ∧ ownable o = true) : Own G B' F fy := by
  refine ⟨w.nd, fun a z => ?_, w.own, w.dis⟩
  cases q : B' a with
  | none => rfl
  | some uu =>
    rcases n.nb a (by rw [q]; exact fun e => nomatch e) with h | h
    · exact absurd (w.nb a z) h
    · obtain ⟨ob, e, w⟩ := st a z; exact (fot_own h e w).elim
/-- an expression that changes what the def owns -/
def VE (X : Cx) (cl : Nat → Addr) (mu : List Nat) (e : Expr) (m : Ev → Option (D × Ev)) : Prop := ∃ t : TE, PE X e t ∧ ∀ (G : GS) σ A B H F, (∀ p ∈ G.kp, p.1 ∈ mu) → Good X.K cl G B H σ A F → ∀ d A', m A = some (d, A') →
  ∀ Q : VK, (∀ v B' H' F' fp, Good X.K cl G B' H' σ A' F' → Rep X.K cl B' H' d v fp → Own G B' F' fp → Q v H') → t σ H Q
/-- the place, at a heap behind it -/
theorem EvP.use (h : EvP X cl e p) : ∃ t : TE, PE X e t ∧ ∀ (G : GS) σ A B H F, Good X.K cl G B H σ A F → ∀ i π e0, p A = some (i, π, e0) → ∃ d v u, A[i]? = some (some d) ∧ getP d π = some e0 ∧ σ[i]? = some (some v) ∧ walk H v π = some u ∧
    ∀ Q : VK, (∀ B' H', New B H B' H' → Q u H') → t σ H Q := by
  obtain ⟨t, pe, r⟩ := h
  exact ⟨t, pe, fun G σ A B H F g i π e0 hp => r σ A B H g.renv i π e0 hp⟩
def bMeth (p : Pl) (op : D → Option (D × D)) : Ev → Option (D × Ev) := fun A => (p A).bind fun z => (op z.2.2).map fun r => (r.1, updP A z.1 z.2.1 r.2)
def bMeth1 (p : Pl) (me : Ev → Option D) (op : D → D → Option (D × D)) : Ev → Option (D × Ev) := fun A => (p A).bind fun z => (me A).bind fun y => (op z.2.2 y).map fun r => (r.1, updP A z.1 z.2.1 r.2)
theorem tyList {K : PySem.W.Frag} {a : Addr} {H : Hp} {vs : List V} (h : H a = some (.lst vs)) : tyV K "list" (.ref a) H := .inl ⟨rfl, vs, .of h⟩
def opAppend : D → D → Option (D × D) := fun x y => match x with
  | .lst true xs => if xs.length < 1000000 then some (.non, .lst true (xs ++ [y])) else none
  | _ => none
theorem ltLine {n : Nat} (h : n < 1000000) : n < sizeLine := Nat.lt_of_lt_of_le h (by rw [sizeLine_eq]; decide)
theorem ve_append {apos cpos : Pos} (ho : EvP X cl o p) (he : EvD X cl e me) (hb : attributeBase o "append" X.env (eval o X.env) = eval o X.env := by rfl)
    (hk : (((backTo cpos (starEach [e] X.env)).all (!·.1)) && ((backToKw cpos (keywordEach [] X.env)).all (·.1.isSome)) && decide (([e].length + ([] : List Keyword).length + if ([] : List Keyword).isEmpty = true then 0 else 1) < 30)) = true := by rfl)
    (hl : (apos.endLine == cpos.line) = true := by rfl) (hs : starEach [e] X.env = (false, eval e X.env) :: starEach [] X.env := by rfl) (hp : (backTo cpos (starEach [] X.env)).any (·.1) = false := by rfl) :
    VE X cl mu (.Call (.Attribute o "append" apos) [e] [] cpos) (bMeth1 p me opAppend) := by
  obtain ⟨t, pe, r⟩ := ho.use
  obtain ⟨t2, pe2, r2⟩ := he
  refine ⟨_, pe_bm PySem.F.plainAttrs_list PySem.F.slot_list_append PySem.F.type_list_append mt_append pe (pa_cons pe2 pa_nil hs) hb hk hl hs hp, fun G σ A B H F hkp g d A' hm Q q => ?_⟩
  unfold bMeth1 at hm
  simp only [Option.bind_eq_some_iff, Option.map_eq_some_iff] at hm
  obtain ⟨⟨i, π, e0⟩, hz, y, hy, ⟨r1, r3⟩, hop, hm⟩ := hm
  simp only at hop hm
  cases hm
  unfold opAppend at hop
  split at hop
  · rename_i xs
    split at hop
    · rename_i hlen
      cases hop
      obtain ⟨d0, v, u, hA, hg, hv, hw, hq⟩ := r G σ A B H F g i π _ hz
      refine hq _ fun B1 H1 n1 => ?_
      have g1 := g.news n1
      obtain ⟨a, vs, fq, e1, e2, nd⟩ := g1.lstN hA hg hv (walk_mono n1.ex hw)
      subst e1
      refine ⟨tyList e2, ?_⟩
      refine r2 σ A B1 H1 g1.renv y hy _ fun yv B2 H2 fy n2 ry fr => ?_
      obtain ⟨a2, vs2, fq2, e3, e4, nd2⟩ := (g1.news n2).lstN hA hg hv (walk_mono n2.ex (walk_mono n1.ex hw))
      cases e3
      obtain ⟨F', gg⟩ := nd2.lstApp ry (g1.ownF fr)
      exact ⟨a, vs2, yv, rfl, rfl, e4, ltLine (by rw [← nd2.rep.length]; exact hlen), q _ B2 _ F' [] gg rep_non Own.nil⟩
    · cases hop
  · cases hop
def opExtend : D → D → Option (D × D) := fun x y => match x with
  | .lst true xs => (match y with
    | .lst _ ys => if xs.length + ys.length < 1000000 ∧ D.plainL xs = true ∧ D.plainL ys = true then some (.non, .lst true (xs ++ ys)) else none
    | _ => none)
  | _ => none
theorem ve_extend {apos cpos : Pos} (ho : EvP X cl o p) (he : EvV X cl e me) (hb : attributeBase o "extend" X.env (eval o X.env) = eval o X.env := by rfl)
    (hk : (((backTo cpos (starEach [e] X.env)).all (!·.1)) && ((backToKw cpos (keywordEach [] X.env)).all (·.1.isSome)) && decide (([e].length + ([] : List Keyword).length + if ([] : List Keyword).isEmpty = true then 0 else 1) < 30)) = true := by rfl)
    (hl : (apos.endLine == cpos.line) = true := by rfl) (hs : starEach [e] X.env = (false, eval e X.env) :: starEach [] X.env := by rfl) (hp : (backTo cpos (starEach [] X.env)).any (·.1) = false := by rfl) :
    VE X cl mu (.Call (.Attribute o "extend" apos) [e] [] cpos) (bMeth1 p me opExtend) := by
  obtain ⟨t, pe, r⟩ := ho.use
  obtain ⟨t2, pe2, r2⟩ := he
  refine ⟨_, pe_bm PySem.F.plainAttrs_list PySem.F.slot_list_extend PySem.F.type_list_extend mt_extend pe (pa_cons pe2 pa_nil hs) hb hk hl hs hp, fun G σ A B H F hkp g d A' hm Q q => ?_⟩
  unfold bMeth1 at hm
  simp only [Option.bind_eq_some_iff, Option.map_eq_some_iff] at hm
  obtain ⟨⟨i, π, e0⟩, hz, y, hy, ⟨r1, r3⟩, hop, hm⟩ := hm
  simp only at hop hm
  cases hm
  unfold opExtend at hop
  split at hop
  · rename_i xs
    split at hop
    · rename_i m ys
      split at hop
      · rename_i hc
        cases hop
        obtain ⟨d0, v, u, hA, hg, hv, hw, hq⟩ := r G σ A B H F g i π _ hz
        refine hq _ fun B1 H1 n1 => ?_
        have g1 := g.news n1
        obtain ⟨a, vs, fq, e1, e2, nd⟩ := g1.lstN hA hg hv (walk_mono n1.ex hw)
        subst e1
        refine ⟨tyList e2, ?_⟩
        refine r2 σ A B1 H1 g1.renv _ hy _ fun yv B2 H2 fy n2 ry => ?_
        obtain ⟨a2, vs2, fq2, e3, e4, nd2⟩ := (g1.news n2).lstN hA hg hv (walk_mono n2.ex (walk_mono n1.ex hw))
        cases e3
        obtain ⟨b, zs, fz, e5, e6, e7, _⟩ := ry.lst_view n2.sub
        subst e5
        have p1 := RepL.plain hc.2.1 nd2.rep
        have p2 := RepL.plain hc.2.2 e7
        subst p1 p2
        obtain ⟨F', gg⟩ := nd2.lstSet (RepL.append nd2.rep e7)
        exact ⟨a, b, vs2, zs, rfl, rfl, e4, e6, by
          have l1 := nd2.rep.length
          have l2 := e7.length
          have := ltLine hc.1
          omega, q _ B2 _ F' [] gg rep_non Own.nil⟩
      · cases hop
    · cases hop
  · cases hop
def opClear : D → Option (D × D) := fun x => match x with
  | .lst true xs => some (.non, .lst true [])
  | _ => none
theorem repL_rev {K : PySem.W.Frag} {B H : Hp} {xs : List D} {vs : List V} (r : RepL K cl B H xs vs []) : RepL K cl B H xs.reverse vs.reverse [] := by
  induction xs generalizing vs with
  | nil => simp only [RepL] at r; rw [r.1]; exact repL_nil
  | cons x xs ih =>
    simp only [RepL] at r
    obtain ⟨v, vr, f1, f2, e1, e2, q1, q2⟩ := r
    have z1 : f1 = [] := (List.append_eq_nil_iff.mp e2.symm).1
    have z2 : f2 = [] := (List.append_eq_nil_iff.mp e2.symm).2
    subst z1 z2 e1
    rw [List.reverse_cons, List.reverse_cons]
    exact RepL.append (f := []) (g := []) (ih q2) (repL_cons (f := []) (g := []) q1 repL_nil)
def opReverse : D → Option (D × D) := fun x => match x with
  | .lst true xs => if D.plainL xs = true then some (.non, .lst true xs.reverse) else none
  | _ => none
def opPop : D → Option (D × D) := fun x => match x with
  | .lst true xs => if D.plainL xs = true then (xs.getLast?).map fun y => (y, .lst true xs.dropLast) else none
  | _ => none
section
variable {apos cpos : Pos}
theorem ve_clear (ho : EvP X cl o p) (hb : attributeBase o "clear" X.env (eval o X.env) = eval o X.env := by rfl) (hl : (apos.endLine == cpos.line) = true := by rfl) : VE X cl mu (.Call (.Attribute o "clear" apos) [] [] cpos) (bMeth p opClear) := by
  obtain ⟨t, pe, r⟩ := ho.use
  refine ⟨_, pe_bm0 PySem.F.plainAttrs_list PySem.F.slot_list_clear PySem.F.type_list_clear mt_clear pe hb hl, fun G σ A B H F hkp g d A' hm Q q => ?_⟩
  unfold bMeth at hm
  simp only [Option.bind_eq_some_iff, Option.map_eq_some_iff] at hm
  obtain ⟨⟨i, π, e0⟩, hz, ⟨r1, r3⟩, hop, hm⟩ := hm
  simp only at hop hm
  cases hm
  unfold opClear at hop
  split at hop
  · rename_i xs
    cases hop
    obtain ⟨d0, v, u, hA, hg, hv, hw, hq⟩ := r G σ A B H F g i π _ hz
    refine hq _ fun B1 H1 n1 => ?_
    have g1 := g.news n1
    obtain ⟨a, vs, fq, e1, e2, nd⟩ := g1.lstN hA hg hv (walk_mono n1.ex hw)
    subst e1
    obtain ⟨F', gg⟩ := nd.lstSet repL_nil
    exact ⟨tyList e2, a, vs, rfl, rfl, e2, q _ B1 _ F' [] gg rep_non Own.nil⟩
  · cases hop
theorem ve_reverse (ho : EvP X cl o p) (hb : attributeBase o "reverse" X.env (eval o X.env) = eval o X.env := by rfl) (hl : (apos.endLine == cpos.line) = true := by rfl) : VE X cl mu (.Call (.Attribute o "reverse" apos) [] [] cpos) (bMeth p opReverse) := by
  obtain ⟨t, pe, r⟩ := ho.use
  refine ⟨_, pe_bm0 PySem.F.plainAttrs_list PySem.F.slot_list_reverse PySem.F.type_list_reverse mt_reverse pe hb hl, fun G σ A B H F hkp g d A' hm Q q => ?_⟩
  unfold bMeth at hm
  simp only [Option.bind_eq_some_iff, Option.map_eq_some_iff] at hm
  obtain ⟨⟨i, π, e0⟩, hz, ⟨r1, r3⟩, hop, hm⟩ := hm
  simp only at hop hm
  cases hm
  unfold opReverse at hop
  split at hop
  · rename_i xs
    split at hop
    · rename_i hc
      cases hop
      obtain ⟨d0, v, u, hA, hg, hv, hw, hq⟩ := r G σ A B H F g i π _ hz
      refine hq _ fun B1 H1 n1 => ?_
      have g1 := g.news n1
      obtain ⟨a, vs, fq, e1, e2, nd⟩ := g1.lstN hA hg hv (walk_mono n1.ex hw)
      subst e1
      have p1 := RepL.plain hc nd.rep
      subst p1
      obtain ⟨F', gg⟩ := nd.lstSet (repL_rev nd.rep)
      exact ⟨tyList e2, a, vs, rfl, rfl, e2, q _ B1 _ F' [] gg rep_non Own.nil⟩
    · cases hop
  · cases hop
theorem ve_pop (ho : EvP X cl o p) (hb : attributeBase o "pop" X.env (eval o X.env) = eval o X.env := by rfl) (hl : (apos.endLine == cpos.line) = true := by rfl) : VE X cl mu (.Call (.Attribute o "pop" apos) [] [] cpos) (bMeth p opPop) := by
  obtain ⟨t, pe, r⟩ := ho.use
  refine ⟨_, pe_bm0 PySem.F.plainAttrs_list PySem.F.slot_list_pop PySem.F.type_list_pop mt_pop pe hb hl, fun G σ A B H F hkp g d A' hm Q q => ?_⟩
  unfold bMeth at hm
  simp only [Option.bind_eq_some_iff, Option.map_eq_some_iff] at hm
  obtain ⟨⟨i, π, e0⟩, hz, ⟨r1, r3⟩, hop, hm⟩ := hm
  simp only at hop hm
  cases hm
  unfold opPop at hop
  split at hop
  · rename_i xs
    split at hop
    · rename_i hc
      simp only [Option.map_eq_some_iff] at hop
      obtain ⟨y, hy, hop⟩ := hop
      cases hop
      obtain ⟨d0, v, u, hA, hg, hv, hw, hq⟩ := r G σ A B H F g i π _ hz
      refine hq _ fun B1 H1 n1 => ?_
      have g1 := g.news n1
      obtain ⟨a, vs, fq, e1, e2, nd⟩ := g1.lstN hA hg hv (walk_mono n1.ex hw)
      subst e1
      have p1 := RepL.plain hc nd.rep
      subst p1
      have hl : xs.length = vs.length := nd.rep.length
      rw [List.getLast?_eq_getElem?] at hy
      obtain ⟨w, h1, h2⟩ := nd.rep.at hy
      have hd : RepL X.K cl B1 H1 xs.dropLast vs.dropLast [] := by
        rw [List.dropLast_eq_take, List.dropLast_eq_take, ← hl]; exact nd.rep.take _
      obtain ⟨F', gg⟩ := nd.lstSet hd
      exact ⟨tyList e2, a, vs, w, rfl, rfl, e2, by rw [← hl]; exact h1, q _ B1 _ F' [] gg (h2.mono (BLe.refl _) fun _ z => nomatch z) Own.nil⟩
    · cases hop
  · cases hop
end
/-! ### statements -/
theorem VE.of (h : EvD X cl e me) : VE X cl mu e (fun A => (me A).map fun d => (d, A)) := by
  obtain ⟨t, pe, r⟩ := h
  refine ⟨t, pe, fun G σ A B H F hk g d A' hm Q q => ?_⟩
  simp only [Option.map_eq_some_iff, Prod.mk.injEq] at hm
  obtain ⟨d', h1, h2, h3⟩ := hm
  subst h2 h3
  exact r σ A B H g.renv _ h1 _ fun v B' H' fp n rp f => q v B' H' F fp (g.news n) rp (g.ownF f)
variable {m : Ev → Option (D × Ev)}
def sEff (m : Ev → Option (D × Ev)) : SM := fun A => (m A).map fun r => .nx r.2
theorem vs_eff (h : VE X cl mu e m) (hs : swapsWith e none pos.line X.env = pure false := by rfl) : VS X cl mu (.Expr e pos) (sEff m) := by
  obtain ⟨t, pe, r⟩ := h
  refine ⟨_, ps_expr pe hs, fun G σ A B H F hk g out eo Dn ok => ?_⟩
  unfold sEff at eo
  simp only [Option.map_eq_some_iff] at eo
  obtain ⟨⟨d, A'⟩, h1, rfl⟩ := eo
  exact r G σ A B H F hk g d A' h1 _ fun v B' H' F' fp g' _ _ => ok σ B' H' F' g'
def sEffR (m : Ev → Option (D × Ev)) : SM := fun A => (m A).map fun r => .rt r.1 r.2
theorem vs_effR (h : VE X cl mu e m) : VS X cl mu (.Return (some e) pos) (sEffR m) := by
  obtain ⟨t, pe, r⟩ := h
  refine ⟨_, ps_ret pe, fun G σ A B H F hk g out eo Dn ok => ?_⟩
  unfold sEffR at eo
  simp only [Option.map_eq_some_iff] at eo
  obtain ⟨⟨d, A'⟩, h1, rfl⟩ := eo
  exact r G σ A B H F hk g d A' h1 _ fun v B' H' F' fp g' rp w => ok σ B' H' F' v fp g' rp w
def sEffA (i : Nat) (m : Ev → Option (D × Ev)) : SM := fun A => (m A).bind fun r => if i < r.2.length then some (.nx (r.2.set i (some r.1))) else none
theorem vs_effA {i : Nat} {x : Str} (hN : X.N.Nodup) (hi : X.N[i]? = some x) (hx : Loc X.env.scope x) (hmu : i ∉ mu) (h : VE X cl mu e m) (hs : swapsWith e (some (.Name x pos')) pos.line X.env = pure false := by rfl) (hf : X.fn x = true ∨ X.env.scope.names.lookup x = some .local := by first | exact .inl rfl | exact .inr rfl | assumption) :
    VS X cl mu (.Assign [.Name x pos'] e pos) (sEffA i m) := by
  obtain ⟨t, pe, r⟩ := h
  refine ⟨_, ps_set hN hi hx pe hs hf, fun G σ A B H F hk g out eo Dn ok => ?_⟩
  unfold sEffA at eo
  simp only [Option.bind_eq_some_iff] at eo
  obtain ⟨⟨d, A'⟩, h1, h2⟩ := eo
  split at h2
  · rename_i hl
    cases h2
    exact r G σ A B H F hk g d A' h1 _ fun v B' H' F' fp g' rp w => ok _ B' H' _ (g'.set hl (fun p hp e => hmu (e ▸ hk p hp)) rp w)
  · cases h2
/-! fields -/
def opFld (f : Str) : D → D → Option D := fun x y => match x with
  | .obj true c fs xs => if fs.length < 900 then some (.obj true c (putT fs xs f y).1 (putT fs xs f y).2) else none
  | _ => none
def sFldS (c : Nat) (f : Str) (p : Pl) (me : Ev → Option D) : SM := fun A => (p A).bind fun z => (me A).bind fun y => match z.2.2 with
  | .obj true c' fs xs => if c' = c ∧ fs.length < 900 then some (.nx (updP A z.1 z.2.1 (.obj true c (putT fs xs f y).1 (putT fs xs f y).2))) else none
  | _ => none
theorem vs_fld {c : Nat} {f : Str} (hC : Cls X.K (cl c)) (hN : NoAttr X.K (cl c) f) (ho : EvP X cl o p) (he : EvD X cl e me) (hs : swapsWith e (some (.Attribute o f pos')) pos.line X.env = pure false := by rfl) : VS X cl mu (.Assign [.Attribute o f pos'] e pos) (sFldS c f p me) := by
  obtain ⟨t, pe, r⟩ := ho.use
  obtain ⟨t2, pe2, r2⟩ := he
  refine ⟨_, ps_fld pe pe2 hs, fun G σ A B H F hk g out eo Dn ok => ?_⟩
  unfold sFldS at eo
  simp only [Option.bind_eq_some_iff] at eo
  obtain ⟨⟨i, π, e0⟩, hz, y, hy, eo⟩ := eo
  simp only at eo
  split at eo
  · rename_i c' fs xs
    split at eo
    · rename_i hc
      obtain ⟨rfl, hfs⟩ := hc
      cases eo
      refine r2 σ A B H g.renv y hy _ fun yv B1 H1 fy n1 ry fr => ?_
      have g1 := g.news n1
      have w1 := g.ownF fr
      obtain ⟨d0, v, u, hA, hg, hv, hw, hq⟩ := r G σ A B1 H1 F g1 i π _ hz
      refine hq _ fun B2 H2 n2 => ?_
      have g2 := g1.news n2
      have ry2 := ry.news n2
      have w2 : Own G B2 F fy := w1.news n2 ry.stand'
      obtain ⟨a, dx, vs, fq, e1, e2, l, nd⟩ := g2.objN hA hg hv (walk_mono n2.ex hw)
      have l2 : fs.length = vs.length := l.trans nd.rep.length
      refine ⟨a, _, dx, _, e1, e2, hC, hN, by rw [List.length_zip]; omega, ?_⟩
      cases hix : fs.idxOf? f with
      | none =>
        rw [putF_none l2 hix]
        obtain ⟨k1, k2, k3⟩ := nd.appj ry2 w2
        have e5 : putT fs xs f y = (fs ++ [f], xs ++ [y]) := by simp only [putT, hix]
        rw [e5] at ok
        obtain ⟨F', gg⟩ := nd.put (.ins (cl c') dx ((fs ++ [f]).zip (vs ++ [yv]))) (.obj true c' (fs ++ [f]) (xs ++ [y])) _ fy rfl w2 k1 k2 fun H' e hs => by
          simp only [Rep]
          exact ⟨a, dx, _, _, rfl, e, by simp [l], k3.mono (BLe.refl _) hs, rfl⟩
        exact ok σ B2 _ F' gg
      | some j =>
        rw [putF_some l2 hix]
        have hj : ∃ x, xs[j]? = some x := ⟨_, List.getElem?_eq_getElem (by rw [← l]; exact idxOf_lt hix)⟩
        obtain ⟨x, hj⟩ := hj
        obtain ⟨gq, k1, k2, k3⟩ := nd.setj ry2 w2 hj
        have e5 : putT fs xs f y = (fs, xs.set j y) := by simp only [putT, hix]
        rw [e5] at ok
        obtain ⟨F', gg⟩ := nd.put (.ins (cl c') dx (fs.zip (vs.set j yv))) (.obj true c' fs (xs.set j y)) gq fy rfl w2 k1 k2 fun H' e hs => by
          simp only [Rep]
          exact ⟨a, dx, _, _, rfl, e, by simp [l], k3.mono (BLe.refl _) hs, rfl⟩
        exact ok σ B2 _ F' gg
    · cases eo
  · cases eo
end
end VI
set_option Elab.async false
set_option linter.all false
set_option maxRecDepth 100000
set_option autoImplicit false
namespace VI
open PySem L2
section
variable {X : Cx} {cl : Nat → Addr} {mu : List Nat} {e o k : Expr} {es : List Expr} {me mk : Ev → Option D} {pos pos' : Pos} {p : Pl}
def ixOf {κ : Type} [DecidableEq κ] (ks : List κ) (k : κ) : Option Nat := ks.idxOf? k
/-- a key's place in an owned node -/
def keyIx : D → D → Option Nat
  | .lst true xs, .int i => ixN xs.length i
  | .dct true ks _, y => (keyD y).bind fun k => ixOf ks k
  | _, _ => none
theorem atI_ix {α : Type} {xs : List α} {i : Int} {j : Nat} (h : ixN xs.length i = some j) : atI xs i = xs[j]? := by
  unfold atI
  rw [h]
  rfl
theorem idx_valV {κ : Type} [DecidableEq κ] {k : κ} : ∀ {ks : List κ} {vs : List V} {j : Nat}, ks.length = vs.length → ks.idxOf? k = some j → ∃ w, valV (ks.zip vs) k = some w ∧ vs[j]? = some w
  | [], _, j, _, h => by simp at h
  | g :: ks, [], j, l, h => by simp at l
  | g :: ks, v :: vs, j, l, h => by
    rw [List.idxOf?_cons] at h
    rw [List.zip_cons_cons]
    by_cases hg : g = k
    · subst hg
      simp at h; subst h
      exact ⟨v, by rw [valV_pos (p := (g, v)) rfl], rfl⟩
    · have h1 : (g == k) = false := by simpa using hg
      rw [h1] at h
      simp only [Bool.false_eq_true, if_false, Option.map_eq_some_iff] at h
      obtain ⟨m, h3, rfl⟩ := h
      obtain ⟨w, q1, q2⟩ := idx_valV (vs := vs) (by simpa using l) h3
      exact ⟨w, by rw [valV_neg (p := (g, v)) hg]; exact q1, by simpa using q2⟩
def pKey (mk : Ev → Option D) (p : Pl) : Pl := fun A => (p A).bind fun z => (mk A).bind fun y => (keyIx z.2.2 y).bind fun j => (getP z.2.2 [j]).map fun e => (z.1, z.2.1 ++ [j], e)
theorem ep_key (hu : X.A.units + 64 < cLine) (h : EvP X cl o p) (hk : EvV X cl k mk) (hs : PlainIx k := by exact fun _ _ => rfl) : EvP X cl (.Subscript o k pos) (pKey mk p) := by
  obtain ⟨t, pe, r⟩ := h
  obtain ⟨t2, pe2, r2⟩ := hk
  refine ⟨_, PE.or (pe_ix ix_seq pe pe2 hs) (pe_dget (by omega) pe pe2 hs), fun σ A B H R i π e0 hd => ?_⟩
  unfold pKey at hd
  simp only [Option.bind_eq_some_iff, Option.map_eq_some_iff] at hd
  obtain ⟨⟨i', π', e1⟩, hp, y, hy, j, hj, e2, hg2, hd⟩ := hd
  simp only at hj hg2 hd
  cases hd
  obtain ⟨d, v, u, hA, hg, hv, hw, hq⟩ := r σ A B H R _ _ _ hp
  obtain ⟨v', fp, hv', rp⟩ := R.at_ _ d hA
  rw [hv] at hv'; cases hv'
  obtain ⟨u', l, f1, rr, w1, w2, w3, w4⟩ := rp.focus hg
  rw [hw] at w1; cases w1
  have hgp : getP d (π' ++ [j]) = some e0 := by rw [getP_append, hg]; exact hg2
  unfold keyIx at hj
  split at hj
  · rename_i xs ix
    simp only [Rep] at w3
    obtain ⟨a, vs, fq, ea, q1, q2, _⟩ := w3
    have hx : xs[j]? = some e0 := by simpa [getP, childs] using hg2
    have hjv : ixN vs.length ix = some j := by rw [← q2.length]; exact hj
    obtain ⟨w, f, k1, k2, _⟩ := q2.get hx
    refine ⟨d, v, w, hA, hgp, hv, ?_, fun Q q => .inl (hq _ fun B1 H1 n1 => r2 σ A B1 H1 (R.news n1) _ hy _ fun kv B2 H2 f2 n2 rk => ?_)⟩
    · rw [walk_append, hw]; simp only [Option.bind_some, walk, kid, ea, q1, k1]
    · rename_i hyy
      rw [rep_int_iff] at rk
      exact .inl ⟨a, vs, ix, w, ea, rk.1, .of (n2.ex _ _ (n1.ex _ _ q1)), by rw [atI_ix hjv]; exact k1, q B2 H2 (n1.trans n2)⟩
  · rename_i ks xs
    simp only [Option.bind_eq_some_iff] at hj
    obtain ⟨kk, hk, hj⟩ := hj
    simp only [Rep] at w3
    obtain ⟨a, vs, fq, ea, q1, ll, q2, _⟩ := w3
    obtain ⟨w, k1, k2⟩ := idx_valV (ll.trans q2.length) hj
    refine ⟨d, v, w, hA, hgp, hv, ?_, fun Q q => .inr (hq _ fun B1 H1 n1 => r2 σ A B1 H1 (R.news n1) _ hy _ fun kv B2 H2 f2 n2 rk => ?_)⟩
    · rw [walk_append, hw]; simp only [Option.bind_some, walk, kid, ea, q1]
      rw [zip_snd (ll.trans q2.length), k2]; rfl
    · exact ⟨a, w, ea, .inl ⟨_, kk, .inl (n2.ex _ _ (n1.ex _ _ q1)), keyD_v hk rk, k1.symm⟩, q B2 H2 (n1.trans n2)⟩
  · cases hj
/-! stores by keys -/
def putO {κ : Type} [DecidableEq κ] (ks : List κ) (xs : List D) (k : κ) (d : D) : Option (List κ × List D) := match ks.idxOf? k with
  | some j => if ks.Nodup then some (ks, xs.set j d) else none
  | none => some (ks ++ [k], xs ++ [d])
def putKey (x k y : D) : Option D := match x with
  | .lst true xs => (match k with
    | .int i => (ixN xs.length i).map fun j => .lst true (xs.set j y)
    | _ => none)
  | .dct true ks xs => (keyD k).bind fun k => if ks.length < 1000000 then (putO ks xs k y).map fun r => .dct true r.1 r.2 else none
  | .dtt true ks xs => (match k with
    | .tup kk => (keysD kk).bind fun k => if ks.length < 1000000 then (putO ks xs k y).map fun r => .dtt true r.1 r.2 else none
    | _ => none)
  | _ => none
def sPut (p : Pl) (mk me : Ev → Option D) : SM := fun A => (me A).bind fun y => (p A).bind fun z => (mk A).bind fun k => (putKey z.2.2 k y).map fun d => .nx (updP A z.1 z.2.1 d)
theorem ixN_lt {n : Nat} {i : Int} {j : Nat} (h : ixN n i = some j) : j < n := by
  unfold ixN at h
  split at h
  · split at h
    · cases h; omega
    · cases h
  · split at h
    · cases h; omega
    · cases h
theorem vs_put (hu : X.A.units + 64 < cLine) (ho : EvP X cl o p) (hk : EvV X cl k mk) (he : EvD X cl e me) (hs : swapsWith e (some (.Subscript o k pos')) pos.line X.env = pure false := by rfl)
    (hs1 : swapsWithSole [.Subscript o k pos'] e pos.line X.env = pure false := by rfl) (hw : swappedStores [.Subscript o k pos'] e X.env = pure none := by rfl) (h1 : (assignEach [.Subscript o k pos'] X.env).map (·.2) = [assign (.Subscript o k pos') X.env] := by rfl)
    (ha : ∀ (v : Value), assign (.Subscript o k pos') X.env v = (do
      let ov ← holding [v] (eval o X.env)
      let iv ← holding [v, ov] (eval k X.env)
      standAt pos'
      holding [v, ov, iv] (setItem ov iv v)
      release [v, ov, iv] []) := by intro _; rfl) :
    VS X cl mu (.Assign [.Subscript o k pos'] e pos) (sPut p mk me) := by
  obtain ⟨t, pe, r⟩ := ho.use
  obtain ⟨t2, pe2, r2⟩ := hk
  obtain ⟨t3, pe3, r3⟩ := he
  refine ⟨_, PS.or (ps_dput (by omega) pe pe2 pe3 hs) (ps_asg pe3 (pg_sub pe pe2 set_list ha) hs1 hw h1), fun G σ A B H F hkp g out eo Dn ok => ?_⟩
  unfold sPut at eo
  simp only [Option.bind_eq_some_iff, Option.map_eq_some_iff] at eo
  obtain ⟨y, hy, ⟨i, π, e0⟩, hz, kd, hkd, d', hput, rfl⟩ := eo
  simp only at hput ok
  -- what stands behind the three looks
  have core : ∀ {P : V → Hp → Prop} {P2 : V → V → Hp → Prop} {P3 : V → V → V → Hp → Prop},
      (∀ yv u kv B3 H3 fy fk, Good X.K cl G B3 H3 σ A F → Rep X.K cl B3 H3 y yv fy → Own G B3 F fy → Rep X.K cl B3 H3 kd kv fk → BLe B3 H3 → (∃ d v, A[i]? = some (some d) ∧ getP d π = some e0 ∧ σ[i]? = some (some v) ∧ walk H3 v π = some u) → P3 yv u kv H3) →
      t3 σ H fun yv H1 => t σ H1 fun u H2 => t2 σ H2 fun kv H3 => P3 yv u kv H3 := by
    intro P P2 P3 k
    refine r3 σ A B H g.renv y hy _ fun yv B1 H1 fy n1 ry fr => ?_
    have g1 := g.news n1
    have w1 := g.ownF fr
    obtain ⟨d0, v, u, hA, hg, hv, hw, hq⟩ := r G σ A B1 H1 F g1 i π _ hz
    refine hq _ fun B2 H2 n2 => ?_
    have g2 := g1.news n2
    refine r2 σ A B2 H2 g2.renv kd hkd _ fun kv B3 H3 fk n3 rk => ?_
    have n23 := n2.trans n3
    exact k yv u kv B3 H3 fy fk (g2.news n3) (ry.news n23) (w1.news n23 ry.stand') rk n3.sub ⟨d0, v, hA, hg, hv, walk_mono n23.ex hw⟩
  unfold putKey at hput
  split at hput
  · rename_i xs
    split at hput
    · rename_i ix
      simp only [Option.map_eq_some_iff] at hput
      obtain ⟨j, hj, rfl⟩ := hput
      refine .inr (core (P := fun _ _ => True) (P2 := fun _ _ _ => True) fun yv u kv B3 H3 fy fk g3 ry w3 rk s3 ⟨d0, v, hA, hg, hv, hw⟩ => ?_)
      rw [rep_int_iff] at rk
      obtain ⟨a, vs, fq, e1, e2, nd⟩ := g3.lstN hA hg hv hw
      obtain ⟨x, hx⟩ : ∃ x, xs[j]? = some x := ⟨_, List.getElem?_eq_getElem (ixN_lt hj)⟩
      obtain ⟨gq, k1, k2, k3⟩ := nd.setj ry w3 hx
      obtain ⟨F', gg⟩ := nd.put (.lst (vs.set j yv)) (.lst true (xs.set j y)) gq fy rfl w3 k1 k2 fun H' e hs => by
        simp only [Rep]
        exact ⟨a, _, _, rfl, e, k3.mono (BLe.refl _) hs, rfl⟩
      exact ⟨a, vs, ix, j, e1, rk.1, e2, by rw [← nd.rep.length]; exact hj, ok σ B3 _ F' gg⟩
    · cases hput
  · rename_i ks xs
    simp only [Option.bind_eq_some_iff] at hput
    obtain ⟨kk, hkk, hput⟩ := hput
    split at hput
    · rename_i hlen
      simp only [Option.map_eq_some_iff] at hput
      obtain ⟨rr, hpo, rfl⟩ := hput
      refine .inl (core (P := fun _ _ => True) (P2 := fun _ _ _ => True) fun yv u kv B3 H3 fy fk g3 ry w3 rk s3 ⟨d0, v, hA, hg, hv, hw⟩ => ?_)
      obtain ⟨a, vs, fq, e1, e2, l, nd⟩ := g3.dctN hA hg hv hw
      have l2 : ks.length = vs.length := l.trans nd.rep.length
      have hzl : (ks.zip vs).length < sizeLine := by rw [List.length_zip]; have := ltLine hlen; omega
      unfold putO at hpo
      split at hpo
      · rename_i j hix
        split at hpo
        · rename_i hnd
          cases hpo
          obtain ⟨x, hx⟩ : ∃ x, xs[j]? = some x := ⟨_, List.getElem?_eq_getElem (by rw [← l]; exact idxOf_lt hix)⟩
          obtain ⟨gq, k1, k2, k3⟩ := nd.setj ry w3 hx
          obtain ⟨F', gg⟩ := nd.put (.dK (ks.zip (vs.set j yv))) (.dct true ks (xs.set j y)) gq fy rfl w3 k1 k2 fun H' e hs => by
            simp only [Rep]
            exact ⟨a, _, _, rfl, e, by simp [l], k3.mono (BLe.refl _) hs, rfl⟩
          exact ⟨a, _, e1, .inl ⟨_, kk, e2, keyD_v hkk rk, hzl, rfl⟩, by rw [putK_some hnd l2 hix]; exact ok σ B3 _ F' gg⟩
        · cases hpo
      · rename_i hix
        cases hpo
        obtain ⟨k1, k2, k3⟩ := nd.appj ry w3
        obtain ⟨F', gg⟩ := nd.put (.dK ((ks ++ [kk]).zip (vs ++ [yv]))) (.dct true (ks ++ [kk]) (xs ++ [y])) _ fy rfl w3 k1 k2 fun H' e hs => by
          simp only [Rep]
          exact ⟨a, _, _, rfl, e, by simp [l], k3.mono (BLe.refl _) hs, rfl⟩
        exact ⟨a, _, e1, .inl ⟨_, kk, e2, keyD_v hkk rk, hzl, rfl⟩, by rw [putK_none l2 hix]; exact ok σ B3 _ F' gg⟩
    · cases hput
  · rename_i ks xs
    split at hput
    · rename_i kl
      simp only [Option.bind_eq_some_iff] at hput
      obtain ⟨kk, hkk, hput⟩ := hput
      split at hput
      · rename_i hlen
        simp only [Option.map_eq_some_iff] at hput
        obtain ⟨rr, hpo, rfl⟩ := hput
        refine .inl (core (P := fun _ _ => True) (P2 := fun _ _ _ => True) fun yv u kv B3 H3 fy fk g3 ry w3 rk s3 ⟨d0, v, hA, hg, hv, hw⟩ => ?_)
        obtain ⟨a, vs, fq, e1, e2, l, nd⟩ := g3.dttN hA hg hv hw
        obtain ⟨tb, tv, e3, q3, q4⟩ := rk.tup_view s3
        rw [keysD_v hkk q4] at q3
        have l2 : ks.length = vs.length := l.trans nd.rep.length
        have hzl : (ks.zip vs).length < sizeLine := by rw [List.length_zip]; have := ltLine hlen; omega
        unfold putO at hpo
        split at hpo
        · rename_i j hix
          split at hpo
          · rename_i hnd
            cases hpo
            obtain ⟨x, hx⟩ : ∃ x, xs[j]? = some x := ⟨_, List.getElem?_eq_getElem (by rw [← l]; exact idxOf_lt hix)⟩
            obtain ⟨gq, k1, k2, k3⟩ := nd.setj ry w3 hx
            obtain ⟨F', gg⟩ := nd.put (.dT (ks.zip (vs.set j yv))) (.dtt true ks (xs.set j y)) gq fy rfl w3 k1 k2 fun H' e hs => by
              simp only [Rep]
              exact ⟨a, _, _, rfl, e, by simp [l], k3.mono (BLe.refl _) hs, rfl⟩
            exact ⟨a, _, e1, .inr ⟨_, kk, tb, e2, e3, q3, hzl, rfl⟩, by rw [putK_some hnd l2 hix]; exact ok σ B3 _ F' gg⟩
          · cases hpo
        · rename_i hix
          cases hpo
          obtain ⟨k1, k2, k3⟩ := nd.appj ry w3
          obtain ⟨F', gg⟩ := nd.put (.dT ((ks ++ [kk]).zip (vs ++ [yv]))) (.dtt true (ks ++ [kk]) (xs ++ [y])) _ fy rfl w3 k1 k2 fun H' e hs => by
            simp only [Rep]
            exact ⟨a, _, _, rfl, e, by simp [l], k3.mono (BLe.refl _) hs, rfl⟩
          exact ⟨a, _, e1, .inr ⟨_, kk, tb, e2, e3, q3, hzl, rfl⟩, by rw [putK_none l2 hix]; exact ok σ B3 _ F' gg⟩
      · cases hput
    · cases hput
  · cases hput
end
end VI
set_option Elab.async false
set_option linter.all false
set_option maxRecDepth 100000
set_option autoImplicit false
namespace VI
open PySem L2
section
variable {K : PySem.W.Frag} {cl : Nat → Addr} {G : GS} {B H B' H' : Hp} {σ σ' : St} {A A' : Ev} {F F' : Nat → List Addr} {d e0 : D} {ds xs : List D} {v u : V} {vs : List V} {fp : List Addr}
/-- a node is lent: what comes back -/
theorem Good.lend {i : Nat} {π : List Nat} (g : Good K cl G B H σ A F) (hA : A[i]? = some (some d)) (hg : getP d π = some e0) (hv : σ[i]? = some (some v)) (hw : walk H v π = some u) :
    ∃ f, Rep K cl B H e0 u f ∧ f.Nodup ∧ (∀ a ∈ f, B a = none) ∧ ∀ (B' H' : Hp) (e' : D) (f' : List Addr), BEx B B' → BLe B' H' → (∀ a o, H a = some o → a ∉ f → H' a = some o) → (∀ a, B' a ≠ none → B a ≠ none ∨ fot H a ∨ a ∈ f) →
      Rep K cl B' H' e' u f' → f'.Nodup → (∀ a ∈ f', B' a = none) → (∀ a ∈ f', a ∈ f ∨ H a = none) →
      ∃ F', Good K cl G B' H' σ (updP A i π e') F' ∧ ∀ fp : List Addr, fp.Nodup → (∀ a ∈ fp, B' a = none) → (∀ a ∈ fp, a ∈ f ∨ H a = none) → (∀ a ∈ fp, a ∉ f') → Own G B' F' fp := by
  obtain ⟨v', hv', r⟩ := g.at_ i d hA
  rw [hv] at hv'
  cases hv'
  obtain ⟨u', l, f, rr, w1, w2, w3, w4⟩ := r.focus hg
  rw [hw] at w1
  cases w1
  have hnd : (l ++ f ++ rr).Nodup := w2 ▸ g.nd i
  have hin : ∀ a ∈ f, a ∈ F i := fun a z => by rw [w2]; simp [z]
  have hil : ∀ a ∈ l ++ rr, a ∈ F i := fun a z => by
    rw [w2]; rcases List.mem_append.mp z with z | z <;> simp [z]
  refine ⟨f, w3, (hnd.sublist (by simp)), fun a z => g.nb i a (hin a z), fun B' H' e' f' hle hsub hfr hbn rep nd' nb' hown => ?_⟩
  have hout : ∀ b ∈ l ++ rr, b ∉ f := fun b z e => by
    rw [List.append_assoc, List.nodup_append] at hnd
    obtain ⟨_, h2, h3⟩ := hnd
    rw [List.nodup_append] at h2
    rcases List.mem_append.mp z with z | z
    · exact h3 b z b (by simp [e]) rfl
    · exact h2.2.2 b e b z rfl
  have same : ∀ j, ∀ b ∈ F j, b ∉ f → H' b = H b := fun j b z hb => by
    obtain ⟨o, q⟩ := g.stand j b z
    rw [hfr b o q hb, q]
  have bno : ∀ j, ∀ b ∈ F j, b ∉ f → B' b = none := fun j b z hb => by
    cases q : B' b with
    | none => rfl
    | some uu =>
      rcases hbn b (by rw [q]; exact fun e => nomatch e) with h | h | h
      · exact absurd (g.nb j b z) h
      · obtain ⟨o, q2, w⟩ := g.stand' j b z; exact (fot_own h q2 w).elim
      · exact absurd h hb
  have newRep := w4 B' H' e' f' hle.le (fun b z => same i b (hil b z) (hout b z)) rep
  have e1 : updP A i π e' = A.set i (some (setP d π e')) := by simp only [updP, hA]
  rw [e1]
  have hi : i < A.length := (List.getElem?_eq_some_iff.mp hA).1
  have offF : ∀ j, j ≠ i → ∀ b ∈ F j, b ∉ f := fun j hj b z e => g.dis j i hj b z (hin b e)
  -- what f' holds is in no other footprint
  have f'off : ∀ j, ∀ b ∈ f', (b ∉ f → b ∉ F j) := fun j b z hb y => by
    rcases hown b z with q | q
    · exact hb q
    · obtain ⟨o, q2⟩ := g.stand j b y; rw [q] at q2; cases q2
  have f'offj : ∀ j, j ≠ i → ∀ b ∈ f', b ∉ F j := fun j hj b z y => by
    by_cases hb : b ∈ f
    · exact offF j hj b y hb
    · exact f'off j b z hb y
  have f'offl : ∀ b ∈ f', b ∉ l ++ rr := fun b z y => by
    by_cases hb : b ∈ f
    · exact hout b y hb
    · exact f'off i b z hb (hil b y)
  refine ⟨setF F i (l ++ f' ++ rr), ?_, fun fp h1 h2 h3 h4 => ⟨h1, h2, fun a z => ?_, fun j a z y => ?_⟩⟩
  · refine ⟨hsub, by rw [List.length_set]; exact g.len, fun j d' e => ?_, fun j e => ?_, fun j => ?_, fun j k hjk b z y => ?_, fun j b z => ?_, g.le0.trans hle, fun b ob hb hs => ?_, fun j b z => ?_, fun b hb => ?_, g.keep, fun p hp => ?_⟩
    · by_cases h : j = i
      · subst h
        rw [List.getElem?_set_self hi] at e; cases e
        rw [setF_same]; exact ⟨v, hv, newRep⟩
      · rw [List.getElem?_set_ne (Ne.symm h)] at e
        rw [setF_ne h]
        obtain ⟨w, h1, h2⟩ := g.at_ j d' e
        exact ⟨w, h1, h2.mono hle.le fun b z => same j b z (offF j h b z)⟩
    · by_cases h : j = i
      · subst h; exact absurd (List.getElem?_set_self hi) (e _)
      · rw [setF_ne h]; exact g.emp j fun d' q => e d' (by rw [List.getElem?_set_ne (Ne.symm h)]; exact q)
    · by_cases h : j = i
      · subst h; rw [setF_same]
        rw [List.append_assoc, List.nodup_append] at hnd ⊢
        obtain ⟨h1, h2, h3⟩ := hnd
        rw [List.nodup_append] at h2 ⊢
        refine ⟨h1, ⟨nd', h2.2.1, fun b zb c zc e => f'offl b zb (by simp [e, zc])⟩, fun b zb c zc e => ?_⟩
        subst e
        rcases List.mem_append.mp zc with z | z
        · exact f'offl b z (by simp [zb])
        · exact h3 b zb b (by simp [z]) rfl
      · rw [setF_ne h]; exact g.nd j
    · by_cases h : j = i
      · subst h; rw [setF_same] at z; rw [setF_ne (Ne.symm hjk)] at y
        rcases List.mem_append.mp z with z | z
        · rcases List.mem_append.mp z with z | z
          · exact g.dis j k hjk b (hil b (by simp [z])) y
          · exact f'offj k (Ne.symm hjk) b z y
        · exact g.dis j k hjk b (hil b (by simp [z])) y
      · rw [setF_ne h] at z
        by_cases h2 : k = i
        · subst h2; rw [setF_same] at y
          rcases List.mem_append.mp y with y | y
          · rcases List.mem_append.mp y with y | y
            · exact g.dis j k hjk b z (hil b (by simp [y]))
            · exact f'offj j h b y z
          · exact g.dis j k hjk b z (hil b (by simp [y]))
        · rw [setF_ne h2] at y; exact g.dis j k hjk b z y
    · by_cases h : j = i
      · subst h; rw [setF_same] at z
        rcases List.mem_append.mp z with z | z
        · rcases List.mem_append.mp z with z | z
          · exact bno j b (hil b (by simp [z])) (hout b (by simp [z]))
          · exact nb' b z
        · exact bno j b (hil b (by simp [z])) (hout b (by simp [z]))
      · rw [setF_ne h] at z; exact bno j b z (offF j h b z)
    · rcases g.fr b ob hb hs with q | ⟨p, hp, hq⟩
      · by_cases hf : b ∈ f
        · rcases g.own i b (hin b hf) with q2 | q2
          · exact absurd q2 hs
          · rw [hb] at q2; cases q2
        · exact .inl (hfr b ob q hf)
      · exact .inr ⟨p, hp, hq⟩
    · by_cases h : j = i
      · subst h; rw [setF_same] at z
        rcases List.mem_append.mp z with z | z
        · rcases List.mem_append.mp z with z | z
          · exact g.own j b (hil b (by simp [z]))
          · rcases hown b z with q | q
            · exact g.own j b (hin b q)
            · exact g.free q
        · exact g.own j b (hil b (by simp [z]))
      · rw [setF_ne h] at z; exact g.own j b z
    · rcases hbn b hb with q | q | q
      · exact g.bnew b q
      · exact .inr (g.freeT q)
      · rcases g.own i b (hin b q) with h | h
        · exact .inr (.inr h)
        · exact .inr (.inl (.inl h))
    · have h1 := g.lkd p hp
      refine hfr _ _ h1 fun hf => ?_
      obtain ⟨ob, h2, h3⟩ := w3.stand' p.1 hf
      rw [h2] at h1; cases h1; cases h3
  · rcases h3 a z with q | q
    · exact g.own i a (hin a q)
    · exact g.free q
  · by_cases h : j = i
    · subst h; rw [setF_same] at y
      rcases List.mem_append.mp y with y | y
      · rcases List.mem_append.mp y with y | y
        · rcases h3 a z with q | q
          · exact hout a (by simp [y]) q
          · obtain ⟨o, q2⟩ := g.stand j a (hil a (by simp [y])); rw [q] at q2; cases q2
        · exact h4 a z y
      · rcases h3 a z with q | q
        · exact hout a (by simp [y]) q
        · obtain ⟨o, q2⟩ := g.stand j a (hil a (by simp [y])); rw [q] at q2; cases q2
    · rw [setF_ne h] at y
      rcases h3 a z with q | q
      · exact offF j h a y q
      · obtain ⟨o, q2⟩ := g.stand j a y; rw [q] at q2; cases q2
/-- the entry of a def that is lent its q-th parameter -/
theorem goodL {q : Nat} {f : List Addr} (s : BLe B H) (hl : ds.length = vs.length) (hq : vs[q]? = some u) (hd : ds[q]? = some e0) (r : Rep K cl B H e0 u f) (nd : f.Nodup) (nb : ∀ a ∈ f, B a = none)
    (ho : ∀ j d, j ≠ q → ds[j]? = some d → ∃ v, vs[j]? = some v ∧ Rep K cl B H d v []) : Good K cl (gs0 H B f [q] vs) B H (vs.map some) (ds.map some) (fun j => if j = q then f else []) where
  sub := s
  len := by simp [hl]
  at_ := fun j d e => by
    rw [List.getElem?_map] at e
    by_cases h : j = q
    · subst h
      rw [hd] at e; cases e
      rw [if_pos rfl]
      exact ⟨u, by rw [List.getElem?_map, hq]; rfl, r⟩
    · rw [if_neg h]
      cases hx : ds[j]? with
      | none => rw [hx] at e; cases e
      | some d' =>
        rw [hx] at e; cases e
        obtain ⟨w, h1, h2⟩ := ho j _ h hx
        exact ⟨w, by rw [List.getElem?_map, h1]; rfl, h2⟩
  emp := fun j h => by
    by_cases hj : j = q
    · subst hj; exact absurd (by rw [List.getElem?_map, hd]; rfl) (h e0)
    · exact if_neg hj
  nd := fun j => by
    by_cases hj : j = q
    · rw [if_pos hj]; exact nd
    · rw [if_neg hj]; exact List.nodup_nil
  dis := fun j k hjk a z => by
    by_cases hj : j = q
    · rw [if_neg (fun e => hjk (hj.trans e.symm))]; exact fun z => nomatch z
    · rw [if_neg hj] at z; cases z
  nb := fun j a z => by
    by_cases hj : j = q
    · rw [if_pos hj] at z; exact nb a z
    · rw [if_neg hj] at z; cases z
  le0 := BEx.refl B
  fr := fun a o e _ => .inl e
  own := fun j a z => by
    by_cases hj : j = q
    · rw [if_pos hj] at z; exact .inl z
    · rw [if_neg hj] at z; cases z
  bnew := fun a e => .inl e
  keep := fun p hp => by
    simp only [gs0, List.filterMap_cons, hq, Option.map_some, List.filterMap_nil, List.mem_singleton] at hp
    subst hp
    show (vs.map some)[q]? = some (some u)
    rw [List.getElem?_map, hq]; rfl
  lkd := fun _ z => nomatch z
theorem gsel_head {α : Type} {us ws cs : List α} {a b : α} : ∀ {src : List Src}, src.all (fun s => match s with | .p 0 => false | _ => true) = true → gsel src (a :: us) ws cs = gsel src (b :: us) ws cs
  | [], _ => rfl
  | s :: src, h => by
    simp only [List.all_cons, Bool.and_eq_true] at h
    have ih := gsel_head (us := us) (ws := ws) (cs := cs) (a := a) (b := b) h.2
    have e : s.get (a :: us) ws cs = s.get (b :: us) ws cs := by
      cases s with
      | p i => cases i with
        | zero => simp at h
        | succ i => rfl
      | k i => rfl
      | c i => rfl
    simp only [gsel, e, ih]
end
/-- what comes back of a lent node -/
def backL (q : Nat) (A : Ev) (z : Nat × List Nat × D) (r : D × Ev) : Option (D × Ev) := match r.2[q]? with
  | some (some e') => some (r.1, updP A z.1 z.2.1 e')
  | _ => none
section
variable {X : Cx} {cl : Nat → Addr} {mu : List Nat} {k n : Nat} {f C : Addr} {fd : FuncData} {ps ks : List Str} {src : List Src} {cs : List D} {cvs : List V} {x m : Str} {pos apos : Pos} {e o : Expr} {es : List Expr} {kws : List Keyword} {me : Ev → Option D} {ms mk : Ev → Option (List D)} {g : List D → Option (D × Ev)} {pl : Sem Bool} {p : Pl} {pn : Pos}
/-- the core of a lent call -/
theorem lend_core {G : GS} {B H : Hp} {σ : St} {A A' : Ev} {F : Nat → List Addr} {K : PySem.W.Frag} {i q n : Nat} {π : List Nat} {d e0 dr : D} {v u : V} {ds : List D} {vs : List V} {r : D × Ev} {Q : VK} {E : XK} (gd : Good K cl G B H σ A F) (hA : A[i]? = some (some d)) (hg : getP d π = some e0) (hv : σ[i]? = some (some v)) (hw : walk H v π = some u)
    (hl : ds.length = vs.length) (hn : ds.length = n) (hq : vs[q]? = some u) (hd : ds[q]? = some e0) (ho : ∀ j d, j ≠ q → ds[j]? = some d → ∃ v, vs[j]? = some v ∧ Rep K cl B H d v []) (hf : g ds = some r) (hb : backL q A (i, π, e0) r = some (dr, A'))
    (k : ∀ v B' H' F' fp, Good K cl G B' H' σ A' F' → Rep K cl B' H' dr v fp → Own G B' F' fp → Q v H') : SpF K cl [q] n g vs H Q E := by
  obtain ⟨f, rp, nd, nb, back⟩ := gd.lend hA hg hv hw
  refine ⟨by rw [← hl]; exact hn, B, ds, _, f, goodL gd.sub hl hq hd rp nd nb ho, r.1, r.2, by rw [hf], fun σ' B' H' F' w fp g2 rw_ ow => ?_⟩
  unfold backL at hb
  split at hb
  · rename_i e' he'
    simp only [Option.some.injEq, Prod.mk.injEq] at hb
    obtain ⟨hb1, hb2⟩ := hb
    subst hb1 hb2
    obtain ⟨u', hu', ru⟩ := g2.at_ q e' he'
    have hkeep : σ'[q]? = some (some u) := g2.keep (q, u) (by simp [gs0, hq])
    rw [hkeep] at hu'
    cases hu'
    obtain ⟨F2, g3, ho3⟩ := back B' H' e' (F' q) g2.le0 g2.sub (fun a ob h1 h2 => (g2.fr a ob h1 h2).elim id fun ⟨p, hp, _⟩ => nomatch hp) (fun a h => g2.bnew a h |>.imp id id) ru (g2.nd q) (g2.nb q) (g2.own q)
    exact k w B' H' F2 fp g3 rw_ (ho3 fp ow.nd ow.nb ow.own (ow.dis q))
  · cases hb
/-- o.m(e, .., k = v, ..), o lent -/
def mLendM (g : List D → Option (D × Ev)) (c : Nat) (m : Str) (src : List Src) (cs : List D) (p : Pl) (ms mk : Ev → Option (List D)) : Ev → Option (D × Ev) := fun A =>
  (p A).bind fun z => (ms A).bind fun ds => (mk A).bind fun zs => if isObj c m z.2.2 = true ∧ D.plainL ds = true ∧ D.plainL zs = true then (g (z.2.2 :: gsel src (.non :: ds) zs cs)).bind (backL 0 A z) else none
theorem ve_meth {c : Nat} (hC : Cls X.K (cl c)) (hM : Meth X.K (cl c) m f) (Fn : FnOk X.prog X.w X.K X.mg X.base CX0 k f fd ps (SpF X.K cl [0] ps.length g)) (hr : Room k X.A) (hb : KBs X.K fd ps (n + 1) ks (.p 0 :: src) cs cvs) (har : Ar ps.length g)
    (h0 : src.all (fun s => match s with | .p 0 => false | _ => true) = true)
    (ho : EvP X cl o p) (ha : EvA X cl (e :: es) ms) (hkw : EvK X cl kws mk) (hn : ∀ A ds, ms A = some ds → ds.length = n) (hz : ∀ A ds, mk A = some ds → ds.length = ks.length)
    (hall : (backToKw pos (keywordEach kws X.env)).all (·.1.isSome) = true := by rfl) (hks : (backToKw pos (keywordEach kws X.env)).filterMap (·.1) = ks := by rfl)
    (he : starEach (e :: es) X.env = (false, eval e X.env) :: starEach es X.env := by rfl)
    (hpl : ((backTo pos (starEach (e :: es) X.env)).any (·.1) || (backToKw pos (keywordEach kws X.env)).any (·.1.isNone)) = false := by rfl)
    (ht : eval (.Call (.Attribute o m apos) (e :: es) kws pos) X.env = (do
      let ov ← eval o X.env
      standAt apos.atName
      let (f, first) ← holding [ov] (getMethod ov m pl)
      callWith pos f first (backTo pos (starEach (e :: es) X.env)) (backToKw pos (keywordEach kws X.env))) := by rfl) :
    VE X cl mu (.Call (.Attribute o m apos) (e :: es) kws pos) (mLendM g c m src cs p ms mk) := by
  obtain ⟨t0, p0, r0⟩ := ho.use
  obtain ⟨t, pa, r⟩ := ha
  obtain ⟨t2, pk, r2⟩ := hkw
  obtain ⟨cu, kb⟩ := hb.kb
  refine ⟨_, pe_methN p0 hC hM Fn hr kb pass0 pa pk hall hks he hpl ht, fun G σ A B H F hkp gd d A' hm Q q => ?_⟩
  unfold mLendM at hm
  simp only [Option.bind_eq_some_iff] at hm
  obtain ⟨⟨i, π, e0⟩, hz0, ds, hds, zs, hzs, hm⟩ := hm
  simp only at hm
  split at hm
  · rename_i hc
    obtain ⟨hio, hp1, hp2⟩ := hc
    simp only [Option.bind_eq_some_iff] at hm
    obtain ⟨rr, hf, hback⟩ := hm
    obtain ⟨d0, v, u, hA, hg, hv, hw, hq⟩ := r0 G σ A B H F gd i π e0 hz0
    refine hq _ fun B1 H1 n1 => ?_
    have g1 := gd.news n1
    obtain ⟨fu, ru, _⟩ := g1.lend hA hg hv (walk_mono n1.ex hw)
    obtain ⟨a, dx, fs, e1, e2, e3⟩ := isObj_view hio n1.sub ru
    refine ⟨a, dx, fs, e1, e2, e3, ?_⟩
    refine r σ A B1 H1 g1.renv ds hds _ fun vs B2 H2 f2 n2 q2 => ?_
    refine r2 σ A B2 H2 (g1.news n2).renv zs hzs _ fun kvs B3 H3 f3 n3 q3 => ?_
    refine ⟨by rw [← q2.length]; exact hn A ds hds, by rw [← q3.length]; exact hz A zs hzs, ?_⟩
    have g3 := (g1.news n2).news n3
    have z1 := RepL.plain hp1 q2
    have z2 := RepL.plain hp2 q3
    subst z1 z2
    have hw3 := walk_mono (n2.trans n3).ex (walk_mono n1.ex hw)
    have tail : RepL X.K cl B3 H3 (gsel src (.non :: ds) zs cs) (gsel src (.non :: vs) kvs cvs) [] := repL_gsel (repL_cons (f := []) (g := []) rep_non (q2.news n3)) q3 (hb.rep cl B3 H3) src
    have ev : gsel (.p 0 :: src) (u :: vs) kvs cvs = u :: gsel src (.non :: vs) kvs cvs := by
      show u :: gsel src (u :: vs) kvs cvs = _
      rw [gsel_head h0]
    show SpF X.K cl [0] ps.length g (gsel (.p 0 :: src) (u :: vs) kvs cvs) H3 Q E0
    rw [ev]
    refine lend_core (q := 0) g3 hA hg hv hw3 (by simp [tail.length]) (har _ _ hf) rfl rfl (fun j d hj hd => ?_) hf hback fun v B' H' F' fp gg rp w => q v B' H' F' fp gg rp w
    cases j with
    | zero => exact absurd rfl hj
    | succ j => exact tail.at (by simpa using hd)
  · cases hm
/-- o.m(), o lent -/
theorem ve_meth0 {c : Nat} (hC : Cls X.K (cl c)) (hM : Meth X.K (cl c) m f) (Fn : FnOk X.prog X.w X.K X.mg X.base CX0 k f fd ps (SpF X.K cl [0] ps.length g)) (hr : Room k X.A) (hb : Binds X.K fd ps []) (har : Ar ps.length g) (ho : EvP X cl o p)
    (ht : eval (.Call (.Attribute o m apos) [] [] pos) X.env = (do
      let ov ← eval o X.env
      standAt apos.atName
      let (f, first) ← holding [ov] (getMethod ov m pl)
      callWith pos f first (backTo pos (starEach [] X.env)) (backToKw pos (keywordEach [] X.env))) := by rfl) :
    VE X cl mu (.Call (.Attribute o m apos) [] [] pos) (mLendM g c m [] [] p mNil mNil) := by
  obtain ⟨t0, p0, r0⟩ := ho.use
  refine ⟨_, pe_meth0 p0 hC hM Fn hr hb .nil pass0 ht, fun G σ A B H F hkp gd d A' hm Q q => ?_⟩
  unfold mLendM at hm
  simp only [Option.bind_eq_some_iff] at hm
  obtain ⟨⟨i, π, e0⟩, hz0, ds, hds, zs, hzs, hm⟩ := hm
  simp only at hm
  cases hds
  cases hzs
  split at hm
  · rename_i hc
    obtain ⟨hio, _, _⟩ := hc
    simp only [Option.bind_eq_some_iff] at hm
    obtain ⟨rr, hf, hback⟩ := hm
    obtain ⟨d0, v, u, hA, hg, hv, hw, hq⟩ := r0 G σ A B H F gd i π e0 hz0
    refine hq _ fun B1 H1 n1 => ?_
    have g1 := gd.news n1
    obtain ⟨fu, ru, _⟩ := g1.lend hA hg hv (walk_mono n1.ex hw)
    obtain ⟨a, dx, fs, e1, e2, e3⟩ := isObj_view hio n1.sub ru
    refine ⟨a, dx, fs, e1, e2, e3, ?_⟩
    refine lend_core (q := 0) (E := E0) g1 hA hg hv (walk_mono n1.ex hw) rfl (har _ _ hf) rfl rfl (fun j d hj hd => ?_) hf hback fun v B' H' F' fp gg rp w => q v B' H' F' fp gg rp w
    cases j with
    | zero => exact absurd rfl hj
    | succ j => simp [gsel] at hd
  · cases hm
/-! arguments, one of them lent -/
def EvL (X : Cx) (cl : Nat → Addr) (es : List Expr) (q : Nat) (p : Pl) (ms : Ev → Option (List D)) : Prop := ∃ t : TA, PA X es t ∧ ∀ σ A B H, REnv X.K cl B H σ A → ∀ i π e0, p A = some (i, π, e0) → ∀ ds, ms A = some ds → ∃ d v u, A[i]? = some (some d) ∧ getP d π = some e0 ∧ σ[i]? = some (some v) ∧ walk H v π = some u ∧ ds[q]? = some e0 ∧
  ∀ Q : List V → Hp → Prop, (∀ vs B' H', New B H B' H' → vs.length = ds.length → vs[q]? = some u → (∀ j d, j ≠ q → ds[j]? = some d → ∃ v, vs[j]? = some v ∧ Rep X.K cl B' H' d v []) → Q vs H') → t σ H Q
def mHere (p : Pl) (ms : Ev → Option (List D)) : Ev → Option (List D) := fun A => (p A).bind fun z => (ms A).bind fun ds => if D.plainL ds = true then some (z.2.2 :: ds) else none
def mThere (me : Ev → Option D) (ms : Ev → Option (List D)) : Ev → Option (List D) := fun A => (me A).bind fun d => if d.plain = true then (ms A).map (d :: ·) else none
theorem el_here (h : EvP X cl e p) (hr : EvA X cl es ms) (hs : starEach (e :: es) X.env = (false, eval e X.env) :: starEach es X.env := by rfl) : EvL X cl (e :: es) 0 p (mHere p ms) := by
  obtain ⟨t, pe, r⟩ := h
  obtain ⟨t2, p2, r2⟩ := hr
  refine ⟨_, pa_cons pe p2 hs, fun σ A B H R i π e0 hp ds hd => ?_⟩
  unfold mHere at hd
  rw [hp] at hd
  simp only [Option.bind_some, Option.bind_eq_some_iff] at hd
  obtain ⟨ds', h1, h2⟩ := hd
  split at h2
  · rename_i hpl
    cases h2
    obtain ⟨d, v, u, hA, hg, hv, hw, hq⟩ := r σ A B H R i π e0 hp
    refine ⟨d, v, u, hA, hg, hv, hw, rfl, fun Q q => hq _ fun B1 H1 n1 => r2 σ A B1 H1 (R.news n1) ds' h1 _ fun vs B2 H2 f2 n2 rr => ?_⟩
    have z := RepL.plain hpl rr
    subst z
    refine q (u :: vs) B2 H2 (n1.trans n2) (by simp [rr.length]) rfl fun j d hj hd => ?_
    cases j with
    | zero => exact absurd rfl hj
    | succ j => exact rr.at (by simpa using hd)
  · cases h2
theorem el_there {q : Nat} (h : EvV X cl e me) (hr : EvL X cl es q p ms) (hs : starEach (e :: es) X.env = (false, eval e X.env) :: starEach es X.env := by rfl) : EvL X cl (e :: es) (q + 1) p (mThere me ms) := by
  obtain ⟨t, pe, r⟩ := h
  obtain ⟨t2, p2, r2⟩ := hr
  refine ⟨_, pa_cons pe p2 hs, fun σ A B H R i π e0 hp ds hd => ?_⟩
  unfold mThere at hd
  simp only [Option.bind_eq_some_iff] at hd
  obtain ⟨d0, h1, h2⟩ := hd
  split at h2
  · rename_i hpl
    simp only [Option.map_eq_some_iff] at h2
    obtain ⟨ds', h3, rfl⟩ := h2
    obtain ⟨d, v, u, hA, hg, hv, hw, hdq, _⟩ := r2 σ A B H R i π e0 hp ds' h3
    refine ⟨d, v, u, hA, hg, hv, hw, by simpa using hdq, fun Q q => ?_⟩
    refine r σ A B H R d0 h1 _ fun w B1 H1 f1 n1 r1 => ?_
    have z := Rep.plain hpl r1
    subst z
    obtain ⟨d', v', u', hA', hg', hv', hw', _, hq'⟩ := r2 σ A B1 H1 (R.news n1) i π e0 hp ds' h3
    rw [hv] at hv'; cases hv'
    rw [walk_mono n1.ex hw] at hw'; cases hw'
    refine hq' _ fun vs B2 H2 n2 hl hu hot => ?_
    refine q (w :: vs) B2 H2 (n1.trans n2) (by simp [hl]) (by simpa using hu) fun j d hj hd => ?_
    cases j with
    | zero => simp at hd; subst hd; exact ⟨w, rfl, r1.news n2⟩
    | succ j => exact (hot j d (fun e => hj (by rw [e])) (by simpa using hd)).imp fun v hv => ⟨by simpa using hv.1, hv.2⟩
  · cases h2
/-- f(e, ..), the q-th lent -/
def mLendF (g : List D → Option (D × Ev)) (q : Nat) (p : Pl) (ms : Ev → Option (List D)) : Ev → Option (D × Ev) := fun A => (p A).bind fun z => (ms A).bind fun ds => (g ds).bind (backL q A z)
theorem ve_call {q : Nat} (Fn : FnOk X.prog X.w X.K X.mg X.base CX0 k f fd ps (SpF X.K cl [q] ps.length g)) (hr : Room k X.A) (hg : Gl X x) (hm : X.mg x = some (.ref f)) (hk : PySem.W.keepIn X.K (.ref f) = true) (hb : Binds X.K fd ps []) (har : Ar ps.length g)
    (ha : EvL X cl (e :: es) q p ms) (hdb : (x == ("__debug__" : Str)) = false := by decide) (he : starEach (e :: es) X.env = (false, eval e X.env) :: starEach es X.env := by rfl) (hpl : (backTo pos (starEach es X.env)).any (·.1) = false := by rfl) :
    VE X cl mu (.Call (.Name x pn) (e :: es) [] pos) (mLendF g q p ms) := by
  obtain ⟨t, pa, r⟩ := ha
  refine ⟨_, pe_call Fn hr hg hm hk hb .nil pass0 pa hdb he hpl, fun G σ A B H F hkp gd d A' hmm Q q' => ?_⟩
  unfold mLendF at hmm
  simp only [Option.bind_eq_some_iff] at hmm
  obtain ⟨⟨i, π, e0⟩, hz0, ds, hds, rr, hf, hback⟩ := hmm
  obtain ⟨d0, v, u, hA, hgp, hv, hw, hdq, hq⟩ := r σ A B H gd.renv i π e0 hz0 ds hds
  refine hq _ fun vs B1 H1 n1 hl hu hot => ?_
  have g1 := gd.news n1
  rw [List.append_nil]
  exact lend_core (q := q) g1 hA hgp hv (walk_mono n1.ex hw) hl.symm (har _ _ hf) hu hdq hot hf hback fun v B' H' F' fp gg rp w => q' v B' H' F' fp gg rp w
end
end VI
set_option Elab.async false
set_option linter.all false
set_option maxRecDepth 100000
set_option autoImplicit false
namespace VI
open PySem L2
section
variable {X : Cx} {cl : Nat → Addr} {mu : List Nat} {k n : Nat} {f C : Addr} {fd : FuncData} {ps ks : List Str} {x m : Str} {pos apos : Pos} {e o : Expr} {es : List Expr} {ms : Ev → Option (List D)} {g : List D → Option (D × Ev)} {pn : Pos}
/-- a new object of class c: __init__ gets it empty -/
def mMake (g : List D → Option (D × Ev)) (c : Nat) (ms : Ev → Option (List D)) : Ev → Option D := fun A => (ms A).bind fun ds => (g (.obj true c [] [] :: D.frzL ds)).bind fun r => match r.1, r.2[0]? with
  | .non, some (some e') => if D.plainL ds = true ∨ e'.clean = true then some e' else none
  | _, _ => none
theorem ev_make {c : Nat} (hM : Mk X.K (cl c) f) (Fn : FnOk X.prog X.w X.K X.mg X.base CX0 k f fd ps (SpF X.K cl [0] ps.length g)) (hr : Room (k + 1) X.A) (hg : Gl X x) (hm : X.mg x = some (.ref (cl c))) (hb : Binds X.K fd ps []) (har : Ar ps.length g)
    (ha : EvA X cl (e :: es) ms) (hdb : (x == ("__debug__" : Str)) = false := by decide) (he : starEach (e :: es) X.env = (false, eval e X.env) :: starEach es X.env := by rfl) (hpl : (backTo pos (starEach es X.env)).any (·.1) = false := by rfl) :
    EvD X cl (.Call (.Name x pn) (e :: es) [] pos) (mMake g c ms) := by
  obtain ⟨t, pa, r⟩ := ha
  refine ⟨_, pe_make hM Fn hr hg hm hb .nil pass0 pa hdb he hpl, fun σ A B H R d hd Q q => ?_⟩
  unfold mMake at hd
  simp only [Option.bind_eq_some_iff] at hd
  obtain ⟨ds, hds, rr, hf, hd⟩ := hd
  split at hd
  · rename_i e' h1 h2
    split at hd
    · rename_i hc
      cases hd
      refine r σ A B H R ds hds _ fun vs B1 H1 f1 n1 rv => ?_
      intro xa dx hx hdx hne
      rw [List.append_nil]
      obtain ⟨s2, le2, rf⟩ := rv.freeze n1.sub
      have st1 := rv.stand'
      generalize hBp : addB B1 H1 f1 = Bp at *
      have hxB : Bp xa = none := s2.none_of hx
      have hdB : Bp dx = none := s2.none_of hdx
      have s3 : BLe Bp (upd (upd H1 dx (.own xa)) xa (.ins (cl c) dx [])) := (s2.upd_out hdB).upd_out hxB
      have hH : ∀ a o, H1 a = some o → (upd (upd H1 dx (.own xa)) xa (.ins (cl c) dx [])) a = some o := fun a o h => by
        rw [upd_ne (fun e => by rw [e, hx] at h; cases h), upd_ne (fun e => by rw [e, hdx] at h; cases h)]; exact h
      have hN : ∀ a, (upd (upd H1 dx (.own xa)) xa (.ins (cl c) dx [])) a = none → H1 a = none := fun a h => none_back hH h
      generalize hHH : upd (upd H1 dx (.own xa)) xa (.ins (cl c) dx []) = HH at *
      have rs : Rep X.K cl Bp HH (.obj true c [] []) (.ref xa) [xa] := by
        simp only [Rep]
        exact ⟨xa, dx, [], [], rfl, by rw [← hHH]; exact upd_same, rfl, repL_nil, rfl⟩
      have rf2 : RepL X.K cl Bp HH (D.frzL ds) vs [] := rf.mono (BLe.refl _) fun _ z => nomatch z
      have hlen : (D.obj true c [] [] :: D.frzL ds).length = ps.length := har _ _ hf
      have g0 := goodL (q := 0) (ds := .obj true c [] [] :: D.frzL ds) (vs := .ref xa :: vs) s3 (by simp [rf.length]) rfl rfl rs (by simp) (fun a z => by simp at z; subst z; exact hxB) (fun j d hj hd => by
        cases j with
        | zero => exact absurd rfl hj
        | succ j => exact rf2.at (by simpa using hd))
      refine ⟨by rw [← hlen]; simp [rf.length], Bp, _, _, [xa], g0, rr.1, rr.2, by rw [hf], fun σ' B' H' F' v fp g2 rp ow => ?_⟩
      rw [h1] at rp
      rw [rep_non_iff] at rp
      refine ⟨rp.1, ?_⟩
      obtain ⟨u', hu', ru⟩ := g2.at_ 0 _ h2
      have hkeep : σ'[0]? = some (some (.ref xa)) := g2.keep (0, .ref xa) (by simp [gs0])
      rw [hkeep] at hu'
      cases hu'
      have own2 : ∀ a, a ∈ [xa] ∨ HH a = none → H1 a = none := fun a h => by
        rcases h with h | h
        · simp at h; subst h; exact hx
        · exact hN a h
      have n2 : New Bp H1 B' H' := ⟨fun a ob h => (g2.fr a ob (hH a ob h) (fun z => by have z : a ∈ [xa] := z; rw [List.mem_singleton] at z; subst z; rw [hx] at h; cases h)).elim id fun ⟨p, hp, _⟩ => (nomatch hp), g2.le0, g2.sub, fun a h => (g2.bnew a h).imp id fun h => h.elim (fun h => fot_back hH h) fun h => .inl (own2 a (.inl h))⟩
      have f2 : Fresh H1 B' (F' 0) := ⟨g2.nd 0, fun a z => own2 a (g2.own 0 a z), g2.nb 0⟩
      subst hBp
      obtain ⟨B2, n3, r3, f3⟩ := New.thaw n1.sub st1 n2 ru f2 (hc.imp (fun h => RepL.plain h rv) id)
      exact q _ B2 H' (F' 0) (n1.trans n3) r3 (fresh_trans n1 f3)
    · cases hd
  · cases hd
/-- a call without arguments that looks only -/
theorem ev_meth0 {c : Nat} {me : Ev → Option D} {pl : Sem Bool} (hC : Cls X.K (cl c)) (hM : Meth X.K (cl c) m f) (Fn : FnOk X.prog X.w X.K X.mg X.base CX0 k f fd ps (SpF X.K cl [] ps.length g)) (hr : Room k X.A) (hb : Binds X.K fd ps []) (har : Ar ps.length g) (ho : EvV X cl o me)
    (ht : eval (.Call (.Attribute o m apos) [] [] pos) X.env = (do
      let ov ← eval o X.env
      standAt apos.atName
      let (f, first) ← holding [ov] (getMethod ov m pl)
      callWith pos f first (backTo pos (starEach [] X.env)) (backToKw pos (keywordEach [] X.env))) := by rfl) :
    EvD X cl (.Call (.Attribute o m apos) [] [] pos) (mPure g [.p 0] [] (mRecv c m me mNil) mNil) := by
  obtain ⟨t0, p0, r0⟩ := ho
  refine ⟨_, pe_meth0 p0 hC hM Fn hr hb .nil pass0 ht, fun σ A B H R d h Q q => ?_⟩
  obtain ⟨ds, zs, A', h1, h2, h3, h4⟩ := mPure_some h
  cases h2
  unfold mRecv at h1
  simp only [Option.bind_eq_some_iff] at h1
  obtain ⟨d0, h1, h5⟩ := h1
  split at h5
  · rename_i hio
    simp only [mNil, Option.map_some] at h5
    cases h5
    refine r0 σ A B H R d0 h1 _ fun v0 B0 H0 f0 n0 q0 => ?_
    obtain ⟨a, dx, fs, e1, e2, e3⟩ := isObj_view hio n0.sub q0
    refine ⟨a, dx, fs, e1, e2, e3, ?_⟩
    exact pure_core (E := E0) (src := [.p 0]) (cs := []) (cvs := []) rfl n0.sub (repL_cons q0 repL_nil) repL_nil (fun _ _ _ => repL_nil) h3 (har _ _ h3) h4 fun v B3 H3 fq n3 r3 f3 => q v B3 H3 fq (n0.trans n3) r3 (fresh_trans n0 f3)
  · cases h5
/-- a call of one's own function without arguments -/
theorem ev_call0 (Fn : FnOk X.prog X.w X.K X.mg X.base CX0 k f fd ps (SpF X.K cl [] ps.length g)) (hr : Room k X.A) (hg : Gl X x) (hm : X.mg x = some (.ref f)) (hk : PySem.W.keepIn X.K (.ref f) = true) (hb : Binds X.K fd ps []) (har : Ar ps.length g) (hdb : (x == ("__debug__" : Str)) = false := by decide) :
    EvD X cl (.Call (.Name x pn) [] [] pos) (mPure g [] [] mNil mNil) := by
  refine ⟨_, pe_call0 Fn hr hg hm hk hb .nil pass0 hdb, fun σ A B H R d h Q q => ?_⟩
  obtain ⟨ds, zs, A', h1, h2, h3, h4⟩ := mPure_some h
  cases h1
  cases h2
  exact pure_core (E := E0) (src := []) (cs := []) (cvs := []) rfl R.sub repL_nil repL_nil (fun _ _ _ => repL_nil) h3 (har _ _ h3) h4 fun v B3 H3 fq n3 r3 f3 => q v B3 H3 fq n3 r3 f3
end
end VI
set_option Elab.async false
set_option linter.all false
set_option maxRecDepth 100000
set_option autoImplicit false
namespace VI
open PySem PyProof.Rows L2
open Sem (wp)
section
variable {prog : Program} {w : World} {A : Around} {E : Value → Shared → Prop} {s : Shared}
theorem extend_rev {R : Result → Shared → Prop} (hh : A.handled = none) {it l : Addr} {items : Array Value} (S : Addr) (res : Value) (c₀ : Nat) (hS : s.heap.get? S = some { cls := .type "list", data := .seq #[] c₀ })
    (hit : s.heap.IsRevIter it l ((items.size : Int) - 1)) (hl : s.heap.IsList l items) (hne : l ≠ it) (hSi : S ≠ it) (hSl : S ≠ l) (hn : items.size ≤ sizeLine)
    (hR : ∀ h' tk acc' c', (∀ b o, b ≠ S → b ≠ it → s.heap.get? b = some o → h'.get? b = some o) → h'.get? S = some { cls := .type "list", dict := none, data := .seq acc' c', slots := #[] } →
      ItemsOf (fun i v => items[items.size - 1 - i]? = some v) acc' items.size → R (.ok (.ret res)) { s with heap := h', toks := tk }) :
    wpAny (model prog w) A.in1 (Builtin.List.listExtendWith (.ref S) (.ref it) res)
      (fun fin s' => match fin with | .done f => R (.ok f) s' | .again c' => c'.quiet = true ∧ codeAny (model prog w) A c' R s') (fun e s' => R (.error e) s') s := by
  have W := (Walks.listRev (prog := prog) (w := w) (A := A.in1) hh it l hne items).toS
  have hSf : S ∉ [it, l] := by simp only [List.mem_cons, List.not_mem_nil, or_false, not_or]; exact ⟨hSi, hSl⟩
  have hT : s.TypeIs (.ref it) "list_reverseiterator" := hit.typeIs
  have h1 : Builtin.List.listSameRef (.ref S) (.ref it) = false := by simp [Builtin.List.listSameRef, hSi]
  unfold Builtin.List.listExtendWith
  refine wpAny_bind (wpAny_typeOf hT ?_)
  rw [if_neg (by rw [h1]; decide)]
  refine wpAny_bind (wpAny_pyIter_revIter hit ?_)
  refine wpAny_bind (wpAny_holding ?_)
  unfold Builtin.List.listLengthHint
  refine wpAny_bind (wpAny_specialOf hT RT.nolen_lri ?_)
  show wpAny _ A.in1 (specialOf (Value.ref it) (Str.ofString "__length_hint__") >>= _) _ _ _
  refine wpAny_bind (wpAny_specialOf hT RT.hint_lri ?_)
  generalize hid : ("list_reverseiterator.__length_hint__" : String) = id0
  wp_delta
  rw [show splitId id0 = some ("list_reverseiterator", "__length_hint__") from by subst hid; decide +kernel]
  subst hid
  refine wpAny_bind (wpAny_isInstance (b := true) hT (by rw [isSubtype_type]; kernel_rfl) ?_)
  refine wpAny_pure ?_
  rw [if_neg (by decide)]
  have e0 : ((items.size : Nat) : Int) - 1 - ((0 : Nat) : Int) = (items.size : Int) - 1 := by omega
  refine wpAny_pure ⟨plainId_quiet F.plain_extend_loop _, codeAny_extend_loopS W hn _ hSf _ items.size 0 _ _ _ rfl (Nat.zero_le _) ⟨Nat.zero_le _, by rw [e0]; exact hit, hl⟩ hS (ItemsOf.nil _) fun s' acc' c' hm hS' hacc => ?_⟩
  rw [Moved.eq_with hm]
  refine hR s'.heap s'.toks acc' c' (fun b o hb hb2 e => hm.heap b o (fun hmem => ?_) e) hS' hacc
  rcases List.mem_cons.mp hmem with e' | hmem
  · exact hb e'
  · exact hb2 (List.mem_singleton.mp hmem)
theorem list_init_rev {R : Result → Shared → Prop} (hh : A.handled = none) {it l : Addr} {items : Array Value} (S : Addr) (hS : s.heap.get? S = some { cls := .type "list", data := .seq #[] })
    (hit : s.heap.IsRevIter it l ((items.size : Int) - 1)) (hl : s.heap.IsList l items) (hne : l ≠ it) (hSi : S ≠ it) (hSl : S ≠ l) (hn : items.size ≤ sizeLine)
    (hR : ∀ h' tk acc' c', (∀ b o, b ≠ S → b ≠ it → s.heap.get? b = some o → h'.get? b = some o) → h'.get? S = some { cls := .type "list", dict := none, data := .seq acc' c', slots := #[] } →
      ItemsOf (fun i v => items[items.size - 1 - i]? = some v) acc' items.size → R (.ok (.ret .none)) { s with heap := h', toks := tk }) :
    wpAny (model prog w) A.in1 (Builtin.«list.__init__» ⟨[.ref S, .ref it], []⟩)
      (fun fin s' => match fin with | .done f => R (.ok f) s' | .again c' => c'.quiet = true ∧ codeAny (model prog w) A c' R s') (fun e s' => R (.error e) s') s := by
  show wpAny _ _ (do let old ← Builtin.List.listItems (.ref S); Builtin.List.listUpdate (.ref S) (fun _ => #[]); letGo old.toList.reverse; Builtin.List.listExtendWith (.ref S) (.ref it) .none) _ _ s
  refine wpAny_bind ?_
  unfold Builtin.List.listItems
  refine wpAny_bind (wpAny_seqItems hS rfl (wpAny_pure ?_))
  show wpAny _ _ (updateSeq S (fun _ => #[]) >>= fun _ => letGo (#[] : Array Value).toList.reverse >>= fun _ => Builtin.List.listExtendWith (.ref S) (.ref it) .none) _ _ s
  refine wpAny_bind (wpAny_updateSeq hS rfl ?_)
  have hS₂ := Heap.get?_update_self (Obj.mapSeq (fun _ => (#[] : Array Value))) hS rfl
  have oth : ∀ b o, b ≠ S → s.heap.get? b = some o → (s.heap.update S (Obj.mapSeq (fun _ => (#[] : Array Value)))).get? b = some o :=
    fun b o hb e => (Heap.get?_update_other _ _ (Ne.symm hb)).trans e
  refine wpAny_bind (wpAny_letGo ?_)
  obtain ⟨ol, hol, cl, nl, dl⟩ := hl
  refine extend_rev (s := { s with heap := s.heap.update S (Obj.mapSeq (fun _ => (#[] : Array Value))) }) hh S .none _ hS₂ (hit.at fun o e => oth it o (Ne.symm hSi) e) ⟨ol, oth l ol (Ne.symm hSl) hol, cl, nl, dl⟩ hne hSi hSl hn fun h' tk acc' c' hk hS' hacc => ?_
  exact hR h' tk acc' c' (fun b o hb hb2 e => hk b o hb hb2 (oth b o hb e)) hS' hacc
theorem call_list_rev {it l : Addr} {items : Array Value} {Q : Value → Shared → Prop} (hh : A.handled = none) (hit : s.heap.IsRevIter it l ((items.size : Int) - 1)) (hl : s.heap.IsList l items) (hne : l ≠ it) (hn : items.size ≤ sizeLine)
    (hQ : ∀ h' tk acc' c', (∀ b o, b ≠ it → s.heap.get? b = some o → h'.get? b = some o) →
      h'.get? s.heap.objs.size = some { cls := .type "list", dict := none, data := .seq acc' c', slots := #[] } → ItemsOf (fun i v => items[items.size - 1 - i]? = some v) acc' items.size → Q (.ref s.heap.objs.size) { s with heap := h', toks := tk }) :
    wpAny (model prog w) A (call (.type "list") [.ref it]) Q E s := by
  refine callType_codes (Q₁ := fun obj s₁ => obj = .ref s.heap.objs.size ∧ s₁ = { s with heap := s.heap.push { cls := .type "list", data := .seq #[] } }) F.called_list (F.typeCall_list_1 _) F.entry_list_init
    (code_list_new _ ⟨rfl, rfl⟩) fun obj s₁ h₁ => ?_
  obtain ⟨rfl, rfl⟩ := h₁
  have hS : (s.heap.push { cls := .type "list", data := .seq #[] }).get? s.heap.objs.size = some { cls := .type "list", data := .seq #[] } := Heap.get?_push_size _ rfl
  obtain ⟨oi, hoi, _⟩ := id hit
  obtain ⟨ol, hol, _⟩ := id hl
  refine ⟨⟨_, hS, rfl⟩, F.args_list_init_2 _ _, list_init_rev (A := A.in1) (s := { s with heap := s.heap.push { cls := .type "list", data := .seq #[] } }) hh _ hS (hit.at fun o e => Heap.get?_push_of_some _ e) (hl.push _) hne (Nat.ne_of_gt (Heap.lt_size hoi)) (Nat.ne_of_gt (Heap.lt_size hol)) hn fun h' tk acc' c' hk hS' hacc => ?_⟩
  exact ⟨rfl, hQ h' tk acc' c' (fun b o hb e => hk b o (Nat.ne_of_lt (Heap.lt_size e)) hb (Heap.get?_push_of_some _ e)) hS' hacc⟩
end
section
variable {X : Cx} {cl : Nat → Addr} {e : Expr} {p p2 pos pos2 : Pos} {te : TE} {me : Ev → Option D}
def tListRev (K : PySem.W.Frag) (te : TE) : TE := fun σ H Q => te σ H fun v H1 => ∃ (a : Addr) (xs : List V), v = .ref a ∧ SqL K H1 a xs ∧ ∀ q, H1 q = none → Q (.ref q) (upd H1 q (.lst xs.reverse))
theorem pe_listRev (hc : X.calm = true) (hg : Gl X "list") (hm : X.mg "list" = none) (hg2 : Gl X "reversed") (hm2 : X.mg "reversed" = none) (he : PE X e te)
    (hs : starEach [e] X.env = (false, eval e X.env) :: starEach [] X.env := by rfl)
    (hs2 : starEach [.Call (.Name "reversed" p2) [e] [] pos2] X.env = (false, eval (.Call (.Name "reversed" p2) [e] [] pos2) X.env) :: starEach [] X.env := by rfl) :
    PE X (.Call (.Name "list" p) [.Call (.Name "reversed" p2) [e] [] pos2] [] pos) (tListRev X.K te) := by
  refine ⟨fun pins s σ H Q I h => ?_⟩
  refine Call_ (ld_blt I hg hm (by decide +kernel : bootBuiltins "list" = some (.type "list")) (PyProof.Rows.callWith_type1 (args_cons (Call_ (ld_blt I hg2 hm2 PyProof.Rows.boot_reversed (PyProof.Rows.callWith_type1 (args_cons (thn (he.run pins s σ H _ I h) fun u s1 ⟨v, H1, I1, r1, q1⟩ => args_nil ?_) hs) hs rfl))) hs2) hs2 rfl))
  obtain ⟨a, xs, ev, hq, q⟩ := q1
  subst ev
  obtain rfl : u = Value.ref a := r1
  obtain ⟨its, rv, p', hz⟩ := I1.list hq
  refine call_reversed_list p'.isList (args_nil ?_)
  have k0 : ∀ b o, s1.heap.get? b = some o → (s1.heap.push (revObj a ((its.toArray.size : Int) - 1))).get? b = some o := fun b o e => Heap.get?_push_of_some _ e
  have I2 : Inv X pins σ H1 { s1 with heap := s1.heap.push (revObj a ((its.toArray.size : Int) - 1)) } := I1.kept (t' := s1.toks) k0
  obtain ⟨f0, f1, f2, f3, f4, f5⟩ := I1.fpOk (H' := H1) (b := s1.heap.objs.size) (Nat.le_refl _) (I1.hok.fresh (Nat.le_refl _))
  have hl := p'.isList
  obtain ⟨ol, hol, _⟩ := id hl
  have hne : a ≠ s1.heap.objs.size := Nat.ne_of_lt (Heap.lt_size hol)
  have hn : its.toArray.size ≤ sizeLine := by rw [List.size_toArray, ← rv.length]; exact hz
  have hsz : (s1.heap.push (revObj a ((its.toArray.size : Int) - 1))).objs.size = s1.heap.objs.size + 1 := by simp [Heap.push]
  refine call_list_rev (s := { s1 with heap := s1.heap.push (revObj a ((its.toArray.size : Int) - 1)) }) (I1.ok.hd hc) ⟨_, Heap.get?_push_size _ rfl, rfl, rfl⟩ (hl.push _) hne hn fun h' tk acc c' hk hS' hi => ?_
  have I3 := I2.turnedNew (ch := [s1.heap.objs.size]) (t' := tk) (T := (s1.heap.push (revObj a ((its.toArray.size : Int) - 1))).objs.size) (ob := .lst xs.reverse) (h' := h') (fun b o hb e => hk b o (fun z => hb (by simp [z])) e)
    (fun b hb => by have hb : b = s1.heap.objs.size := by simpa using hb
                    subst hb; exact ⟨f0, f1, f2, f3, f4, f5⟩) (Nat.le_refl _) (show ObjOk X.prog X.w _ _ _ (.lst xs.reverse) from ⟨by rw [List.length_reverse]; exact hz, acc.toList, c', RT.vals_rev rv hi, by rw [Array.toArray_toList]; exact hS'⟩)
  exact ⟨.ref _, _, I3, rfl, q _ (I2.hok.fresh (Nat.le_refl _))⟩
def revD : D → Option D
  | .lst _ xs => if D.plainL xs = true then some (.lst true xs.reverse) else none
  | _ => none
theorem ev_listRev (hc : X.calm = true) (hg : Gl X "list") (hm : X.mg "list" = none) (hg2 : Gl X "reversed") (hm2 : X.mg "reversed" = none) (he : EvV X cl e me)
    (hs : starEach [e] X.env = (false, eval e X.env) :: starEach [] X.env := by rfl)
    (hs2 : starEach [.Call (.Name "reversed" p2) [e] [] pos2] X.env = (false, eval (.Call (.Name "reversed" p2) [e] [] pos2) X.env) :: starEach [] X.env := by rfl) :
    EvD X cl (.Call (.Name "list" p) [.Call (.Name "reversed" p2) [e] [] pos2] [] pos) (fun A => (me A).bind revD) := by
  obtain ⟨t, pe, r⟩ := he
  refine ⟨_, pe_listRev hc hg hm hg2 hm2 pe hs hs2, fun σ A B H R d hd Q q => ?_⟩
  simp only [Option.bind_eq_some_iff] at hd
  obtain ⟨x, hx, hd⟩ := hd
  unfold revD at hd
  split at hd
  · rename_i m xs
    split at hd
    · rename_i hp
      cases hd
      refine r σ A B H R _ hx _ fun v B1 H1 f1 n1 rp => ?_
      obtain ⟨a, vs, fq, e1, e2, e3, _⟩ := rp.lst_view n1.sub
      have z := RepL.plain hp e3
      subst z
      exact ⟨a, vs, e1, .of e2, new_list_q n1.sub (repL_rev e3) fun w B2 H2 fp n2 rw_ fr => q w B2 H2 fp (n1.trans n2) rw_ (fresh_trans n1 fr)⟩
    · cases hd
  · cases hd
end
end VI
set_option Elab.async false
set_option linter.all false
set_option maxRecDepth 100000
set_option autoImplicit false
namespace VI
open PySem L2
section
variable {X : Cx} {cl : Nat → Addr} {mu : List Nat} {e o a b : Expr} {es rest : List Expr} {x : Str} {me : Ev → Option D} {pos p pos' : Pos}
/-! the module's constants -/
theorem ev_gint {i : Int} (hg : Gl X x) (hm : ∃ t, X.mg x = some (.int i t)) (hdb : (x == ("__debug__" : Str)) = false := by decide) : EvD X cl (.Name x pos) (mC (.int i)) := by
  obtain ⟨t, hm⟩ := hm
  exact ev_const (v := .int i) (pe_glob hg hm ⟨t, rfl⟩ hdb) fun B H _ => by simp only [Rep]; exact ⟨trivial, trivial⟩
theorem ev_gstr {z : Str} (hg : Gl X x) (hm : ∃ t, X.mg x = some (.str z t)) (hdb : (x == ("__debug__" : Str)) = false := by decide) : EvD X cl (.Name x pos) (mC (.str z)) := by
  obtain ⟨t, hm⟩ := hm
  exact ev_const (v := .str z) (pe_glob hg hm ⟨t, rfl⟩ hdb) fun B H _ => by simp only [Rep]; exact ⟨trivial, trivial⟩
theorem ev_gtup {ds : List D} {vs : List V} {a : Addr} (hg : Gl X x) (hm : X.mg x = some (.ref a)) (hs : ∀ H, SqT X.K H a vs) (hr : ∀ B H, RepL X.K cl B H ds vs []) (hdb : (x == ("__debug__" : Str)) = false := by decide) : EvD X cl (.Name x pos) (mC (.ktup ds)) :=
  ev_const (v := .ref a) (pe_glob hg hm rfl hdb) fun B H _ => by simp only [Rep]; exact ⟨a, vs, rfl, hs B, hr B H, trivial⟩
/-! isinstance -/
def tyD : D → Option String
  | .non => some "NoneType"
  | .bl _ => some "bool"
  | .int _ => some "int"
  | .str _ => some "str"
  | .tup _ => some "tuple"
  | .lst _ _ => some "list"
  | .dct _ _ _ => some "dict"
  | .dtt _ _ _ => some "dict"
  | _ => none
def mIsi (T : String) (me : Ev → Option D) : Ev → Option D := fun A => (me A).bind fun d => (tyD d).bind fun n => (kitB n T).map .bl
/-- .. a locked dict with tuple keys, too -/
def TyW (K : PySem.W.Frag) (H : Hp) (x : V) (t : Value) : Prop := TyX K H x t ∨ ∃ (a : Addr) (o : Obj) (kvs : List (List Key × V)), x = .ref a ∧ t = .type "dict" ∧ H a = some (.frz o (.dT kvs))
theorem call_isiW : CallR X (.builtin "isinstance") (fun xs H Q => ∃ (x c : V) (t u : Value) (b : Bool), xs = [x, c] ∧ ClsV c u ∧ TyW X.K H x t ∧ PySem.W.kitOne X.K t u = some b ∧ Q (.bl b) H) := by
  intro pins s σ H xs us Q I rx ⟨x, c, t, u, b, he, k, ty, hb, q⟩
  rcases ty with ty | ⟨a, o, kvs, hx, ht, hf⟩
  · exact call_isi pins s σ H xs us Q I rx ⟨x, c, t, u, b, he, k, ty, hb, q⟩
  subst he hx ht
  obtain ⟨u1, u2, hu, r1, r2⟩ := vals2 rx
  subst hu
  have e2 := k.eq r2
  subst e2
  obtain rfl : u1 = Value.ref a := r1
  obtain ⟨_, _, _, ks, _, ob, es, ep, g1, g2, _⟩ := (show ObjOk X.prog X.w H s.heap a (.frz o (.dT kvs)) from I.hok a _ hf)
  exact PySem.W.kia_one (PySem.W.kitx_dict (a := a)) I.kIn ⟨ob, g1, g2.1⟩ hb (fun z => nomatch z) fun tk => ⟨.bl b, H, I.tok tk, rfl, q⟩
theorem ty_of {K : PySem.W.Frag} {B H : Hp} {d : D} {v : V} {fp : List Addr} {n : String} (s : BLe B H) (r : Rep K cl B H d v fp) (h : tyD d = some n) : TyW K H v (.type n) := by
  unfold tyD at h
  split at h <;> cases h
  · rw [rep_non_iff] at r; rw [r.1]; exact .inl (.base .non)
  · rw [rep_bl_iff] at r; rw [r.1]; exact .inl (.base (.bl _))
  · rw [rep_int_iff] at r; rw [r.1]; exact .inl (.base (.int _))
  · rw [rep_str_iff] at r; rw [r.1]; exact .inl (.base (.str _))
  · obtain ⟨a, vs, e1, q1, _⟩ := r.tup_view s; subst e1; exact .inl (.base (.tup q1))
  · obtain ⟨a, vs, fq, e1, q1, _⟩ := r.lst_view s; subst e1; exact .inl (.base (.lst q1))
  · obtain ⟨a, vs, fq, e1, q1, _⟩ := r.dct_view s; subst e1
    rcases q1 with q | ⟨o, q⟩
    · exact .inl (.base (.dK q))
    · exact .inl (.fDict q)
  · obtain ⟨a, vs, fq, e1, q1, _⟩ := r.dtt_view s; subst e1
    rcases q1 with q | ⟨o, q⟩
    · exact .inl (.base (.dT q))
    · exact .inr ⟨a, o, _, rfl, rfl, q⟩
theorem ev_isi {T : String} {y : Str} {q : Pos} (hg : Gl X "isinstance") (hm : X.mg "isinstance" = none) (hv : bootBuiltins "isinstance" = some (.builtin "isinstance")) (hg2 : Gl X y) (hm2 : X.mg y = none) (hv2 : bootBuiltins y = some (.type T)) (he : EvV X cl e me)
    (hy : (y == ("__debug__" : Str)) = false := by decide) (hn : y ≠ "__name__" := by decide)
    (hs : starEach [e, .Name y q] X.env = (false, eval e X.env) :: starEach [.Name y q] X.env := by rfl) (hs2 : starEach [.Name y q] X.env = (false, eval (.Name y q) X.env) :: starEach [] X.env := by rfl) (hpl : (backTo pos (starEach [.Name y q] X.env)).any (·.1) = false := by rfl) :
    EvD X cl (.Call (.Name "isinstance" p) [e, .Name y q] [] pos) (mIsi T me) := by
  obtain ⟨t, pe, r⟩ := he
  refine ⟨_, pe_callB call_isiW hg hm hv (pa_cons pe (pa_cons (pe_bltn (v := .ty T) hg2 hm2 hv2 rfl hn hy) pa_nil hs2) hs) (he := hs), fun σ A B H R d hd Q k => ?_⟩
  unfold mIsi at hd
  simp only [Option.bind_eq_some_iff, Option.map_eq_some_iff] at hd
  obtain ⟨x, hx, n, hn, c, hc, rfl⟩ := hd
  refine r σ A B H R x hx _ fun v B1 H1 f1 n1 rp => ?_
  exact ⟨v, .ty T, _, _, c, rfl, .ty T, ty_of n1.sub rp hn, kit_ty hc, k _ B1 H1 [] n1 rep_bl Fresh.nil⟩
/-! tests that change what the def owns -/
def VT (X : Cx) (cl : Nat → Addr) (mu : List Nat) (e : Expr) (m : Ev → Option (Bool × Ev)) : Prop := ∃ t : TT, PT X e t ∧ ∀ (G : GS) σ A B H F, (∀ p ∈ G.kp, p.1 ∈ mu) → Good X.K cl G B H σ A F → ∀ b A', m A = some (b, A') →
  ∀ Q : Bool → Hp → Prop, (∀ B' H' F', Good X.K cl G B' H' σ A' F' → Q b H') → t σ H Q
def VW (X : Cx) (cl : Nat → Addr) (mu : List Nat) (e : Expr) (m : Ev → Option (Bool × Ev)) : Prop := ∃ t : TT, PW X e t ∧ ∀ (G : GS) σ A B H F, (∀ p ∈ G.kp, p.1 ∈ mu) → Good X.K cl G B H σ A F → ∀ b A', m A = some (b, A') →
  ∀ Q : Bool → Hp → Prop, (∀ B' H' F', Good X.K cl G B' H' σ A' F' → Q b H') → t σ H Q
variable {m m1 m2 : Ev → Option (D × Ev)} {t1 t2 : Ev → Option (Bool × Ev)} {mt : Ev → Option Bool} {s1 s2 : SM} {body orelse : List Stmt}
theorem VT.of (h : EvT X cl e mt) : VT X cl mu e (fun A => (mt A).map fun b => (b, A)) := by
  obtain ⟨t, pe, r⟩ := h
  refine ⟨t, pe, fun G σ A B H F hk g b A' hm Q q => ?_⟩
  simp only [Option.map_eq_some_iff, Prod.mk.injEq] at hm
  obtain ⟨b', h1, h2, h3⟩ := hm
  subst h2 h3
  exact r σ A B H g.renv _ h1 _ fun B' H' n => q B' H' F (g.news n)
def tNon (neg : Bool) (m : Ev → Option (D × Ev)) : Ev → Option (Bool × Ev) := fun A => (m A).map fun r => (match r.1 with | .non => !neg | _ => neg, r.2)
theorem vt_isN {j : Nat} (h : VE X cl mu e m) : VT X cl mu (.Compare e [.Is] [.Constant .none j pos'] pos) (tNon false m) := by
  obtain ⟨t, pe, r⟩ := h
  refine ⟨_, pt_cmp (pc_isN pe), fun G σ A B H F hk g b A' hm Q q => ?_⟩
  unfold tNon at hm
  simp only [Option.map_eq_some_iff, Prod.mk.injEq] at hm
  obtain ⟨⟨d, A1⟩, h1, h2, h3⟩ := hm
  simp only at h2 h3
  subst h3
  refine r G σ A B H F hk g d A1 h1 _ fun v B' H' F' fp g' rp w => ⟨b, ?_, q B' H' F' g'⟩
  rw [non_iff rp, ← h2]
  cases d <;> rfl
theorem vt_notN {j : Nat} (h : VE X cl mu e m) : VT X cl mu (.Compare e [.IsNot] [.Constant .none j pos'] pos) (tNon true m) := by
  obtain ⟨t, pe, r⟩ := h
  refine ⟨_, pt_cmp (pc_notN pe), fun G σ A B H F hk g b A' hm Q q => ?_⟩
  unfold tNon at hm
  simp only [Option.map_eq_some_iff, Prod.mk.injEq] at hm
  obtain ⟨⟨d, A1⟩, h1, h2, h3⟩ := hm
  simp only at h2 h3
  subst h3
  refine r G σ A B H F hk g d A1 h1 _ fun v B' H' F' fp g' rp w => ⟨b, ?_, q B' H' F' g'⟩
  rw [non_iff rp, ← h2]
  cases d <;> rfl
def tNotE (t1 : Ev → Option (Bool × Ev)) : Ev → Option (Bool × Ev) := fun A => (t1 A).map fun r => (!r.1, r.2)
theorem vt_not (h : VT X cl mu e t1) : VT X cl mu (.UnaryOp .Not e pos) (tNotE t1) := by
  obtain ⟨t, pe, r⟩ := h
  refine ⟨_, pt_not pe, fun G σ A B H F hk g b A' hm Q q => ?_⟩
  unfold tNotE at hm
  simp only [Option.map_eq_some_iff, Prod.mk.injEq] at hm
  obtain ⟨⟨b1, A1⟩, h1, h2, h3⟩ := hm
  simp only at h2 h3
  subst h2 h3
  exact r G σ A B H F hk g b1 A1 h1 _ fun B' H' F' g' => q B' H' F' g'
def tBlE (m : Ev → Option (D × Ev)) : Ev → Option (Bool × Ev) := fun A => (m A).bind fun r => match r.1 with | .bl b => some (b, r.2) | _ => none
theorem vt_val (h : VE X cl mu e m) (he : ∀ whole, isTrue e X.env whole = (do let v ← whole; standAt e.pos; holding [v] (truthy v))) : VT X cl mu e (tBlE m) := by
  obtain ⟨t, pe, r⟩ := h
  refine ⟨_, pt_val pe he, fun G σ A B H F hk g b A' hm Q q => ?_⟩
  unfold tBlE at hm
  simp only [Option.bind_eq_some_iff] at hm
  obtain ⟨⟨d, A1⟩, h1, h2⟩ := hm
  simp only at h2
  split at h2
  · cases h2
    refine r G σ A B H F hk g _ _ h1 _ fun v B' H' F' fp g' rp w => ?_
    rw [rep_bl_iff] at rp
    exact ⟨b, rp.1, q B' H' F' g'⟩
  · cases h2
theorem VW.t (h : VW X cl mu e t1) : VT X cl mu e t1 := by
  obtain ⟨t, pe, r⟩ := h
  exact ⟨t, pe.pt, r⟩
theorem vw_or1 (ha : VT X cl mu a t1) : VW X cl mu (.BoolOp .Or [a] pos) t1 := by
  obtain ⟨t, p, r⟩ := ha
  exact ⟨t, pw_or1 p, r⟩
theorem vw_and1 (ha : VT X cl mu a t1) : VW X cl mu (.BoolOp .And [a] pos) t1 := by
  obtain ⟨t, p, r⟩ := ha
  exact ⟨t, pw_and1 p, r⟩
def tOrE (t1 t2 : Ev → Option (Bool × Ev)) : Ev → Option (Bool × Ev) := fun A => (t1 A).bind fun r => if r.1 = true then some (true, r.2) else t2 r.2
def tAndE (t1 t2 : Ev → Option (Bool × Ev)) : Ev → Option (Bool × Ev) := fun A => (t1 A).bind fun r => if r.1 = true then t2 r.2 else some (false, r.2)
theorem vw_or (ha : VT X cl mu a t1) (hb : VW X cl mu (.BoolOp .Or (b :: rest) pos) t2) : VW X cl mu (.BoolOp .Or (a :: b :: rest) pos) (tOrE t1 t2) := by
  obtain ⟨t, p, r⟩ := ha
  obtain ⟨t', p', r'⟩ := hb
  refine ⟨_, pw_or p p', fun G σ A B H F hk g k A' hm Q q => ?_⟩
  unfold tOrE at hm
  simp only [Option.bind_eq_some_iff] at hm
  obtain ⟨⟨x, A1⟩, h1, h2⟩ := hm
  refine r G σ A B H F hk g x A1 h1 _ fun B1 H1 F1 g1 => ?_
  cases x with
  | true => rw [if_pos rfl] at h2 ⊢; cases h2; exact q B1 H1 F1 g1
  | false => rw [if_neg Bool.false_ne_true] at h2 ⊢; exact r' G σ A1 B1 H1 F1 hk g1 k A' h2 Q q
theorem vw_and (ha : VT X cl mu a t1) (hb : VW X cl mu (.BoolOp .And (b :: rest) pos) t2) : VW X cl mu (.BoolOp .And (a :: b :: rest) pos) (tAndE t1 t2) := by
  obtain ⟨t, p, r⟩ := ha
  obtain ⟨t', p', r'⟩ := hb
  refine ⟨_, pw_and p p', fun G σ A B H F hk g k A' hm Q q => ?_⟩
  unfold tAndE at hm
  simp only [Option.bind_eq_some_iff] at hm
  obtain ⟨⟨x, A1⟩, h1, h2⟩ := hm
  refine r G σ A B H F hk g x A1 h1 _ fun B1 H1 F1 g1 => ?_
  cases x with
  | true => rw [if_pos rfl] at h2 ⊢; exact r' G σ A1 B1 H1 F1 hk g1 k A' h2 Q q
  | false => rw [if_neg Bool.false_ne_true] at h2 ⊢; cases h2; exact q B1 H1 F1 g1
def sIfE (t : Ev → Option (Bool × Ev)) (s1 s2 : SM) : SM := fun A => (t A).bind fun r => if r.1 = true then s1 r.2 else s2 r.2
theorem vs_ifE (hc : VT X cl mu e t1) (h1 : VSs X cl mu body s1) (h2 : VSs X cl mu orelse s2) : VS X cl mu (.If e body orelse pos) (sIfE t1 s1 s2) := by
  obtain ⟨t, p, r⟩ := hc
  obtain ⟨t1, p1, r1⟩ := h1
  obtain ⟨t2, p2, r2⟩ := h2
  refine ⟨_, ps_if p p1 p2, fun G σ A B H F hk g out eo Dn ok => ?_⟩
  unfold sIfE at eo
  simp only [Option.bind_eq_some_iff] at eo
  obtain ⟨⟨b, A1⟩, h1, h2⟩ := eo
  refine r G σ A B H F hk g b A1 h1 _ fun B' H' F' g' => ?_
  cases b with
  | true => rw [if_pos rfl] at h2 ⊢; exact r1 G σ A1 B' H' F' hk g' out h2 Dn ok
  | false => rw [if_neg Bool.false_ne_true] at h2 ⊢; exact r2 G σ A1 B' H' F' hk g' out h2 Dn ok
end
end VI
set_option Elab.async false
set_option linter.all false
set_option maxRecDepth 100000
set_option autoImplicit false
namespace VI
open PySem L2
section
variable {X : Cx} {cl : Nat → Addr} {mu : List Nat} {k n : Nat} {f C : Addr} {fd : FuncData} {ps ks : List Str} {x m : Str} {p pos apos : Pos} {e o : Expr} {es : List Expr} {me : Ev → Option D} {ms : Ev → Option (List D)} {g : List D → Option (D × Ev)} {pl : Sem Bool}
/-- a look's call, every parameter written -/
def mPos (g : List D → Option (D × Ev)) (ms : Ev → Option (List D)) : Ev → Option D := fun A => (ms A).bind fun ds => (g (D.frzL ds)).bind fun r => if D.plainL ds = true ∨ r.1.clean = true then some r.1 else none
theorem mPos_some {A : Ev} {d : D} (h : mPos g ms A = some d) : ∃ ds A', ms A = some ds ∧ g (D.frzL ds) = some (d, A') ∧ (D.plainL ds = true ∨ d.clean = true) := by
  unfold mPos at h
  simp only [Option.bind_eq_some_iff] at h
  obtain ⟨ds, h1, r, h3, h4⟩ := h
  split at h4
  · rename_i hc
    cases h4
    exact ⟨ds, r.2, h1, h3, hc⟩
  · cases h4
theorem ev_callP (F : FnOk X.prog X.w X.K X.mg X.base CX0 k f fd ps (SpF X.K cl [] ps.length g)) (hr : Room k X.A) (hg : Gl X x) (hm : X.mg x = some (.ref f)) (hk : PySem.W.keepIn X.K (.ref f) = true) (hb : Binds X.K fd ps []) (har : Ar ps.length g)
    (ha : EvA X cl (e :: es) ms) (hdb : (x == ("__debug__" : Str)) = false := by decide) (he : starEach (e :: es) X.env = (false, eval e X.env) :: starEach es X.env := by rfl) (hpl : (backTo pos (starEach es X.env)).any (·.1) = false := by rfl) :
    EvD X cl (.Call (.Name x p) (e :: es) [] pos) (mPos g ms) := by
  obtain ⟨t, pa, r⟩ := ha
  refine ⟨_, pe_call F hr hg hm hk hb .nil pass0 pa hdb he hpl, fun σ A B H R d h Q q => ?_⟩
  obtain ⟨ds, A', h1, h3, h4⟩ := mPos_some h
  refine r σ A B H R ds h1 _ fun vs B1 H1 f1 n1 q1 => ?_
  rw [List.append_nil]
  exact call_pure n1.sub q1 (by rw [← D.frzL_length]; exact har _ _ h3) h3 h4 fun v B3 H3 fq n3 r3 f3 => q v B3 H3 fq (n1.trans n3) r3 (fresh_trans n1 f3)
theorem ev_methP {c : Nat} (hC : Cls X.K (cl c)) (hM : Meth X.K (cl c) m f) (F : FnOk X.prog X.w X.K X.mg X.base CX0 k f fd ps (SpF X.K cl [] ps.length g)) (hr : Room k X.A) (hb : Binds X.K fd ps []) (har : Ar ps.length g)
    (ho : EvV X cl o me) (ha : EvA X cl (e :: es) ms)
    (he : starEach (e :: es) X.env = (false, eval e X.env) :: starEach es X.env := by rfl) (hpl : (backTo pos (starEach es X.env)).any (·.1) = false := by rfl)
    (ht : eval (.Call (.Attribute o m apos) (e :: es) [] pos) X.env = (do
      let ov ← eval o X.env
      standAt apos.atName
      let (f, first) ← holding [ov] (getMethod ov m pl)
      callWith pos f first (backTo pos (starEach (e :: es) X.env)) (backToKw pos (keywordEach [] X.env))) := by rfl) :
    EvD X cl (.Call (.Attribute o m apos) (e :: es) [] pos) (mPos g (mRecv c m me ms)) := by
  obtain ⟨t0, p0, r0⟩ := ho
  obtain ⟨t, pa, r⟩ := ha
  refine ⟨_, pe_meth p0 hC hM F hr hb .nil pass0 pa he hpl ht, fun σ A B H R d h Q q => ?_⟩
  obtain ⟨ds, A', h1, h3, h4⟩ := mPos_some h
  unfold mRecv at h1
  simp only [Option.bind_eq_some_iff] at h1
  obtain ⟨d0, h1, h5⟩ := h1
  split at h5
  · rename_i hio
    simp only [Option.map_eq_some_iff] at h5
    obtain ⟨ds1, h6, rfl⟩ := h5
    refine r0 σ A B H R d0 h1 _ fun v0 B0 H0 f0 n0 q0 => ?_
    obtain ⟨a, dx, fs, e1, e2, e3⟩ := isObj_view hio n0.sub q0
    refine ⟨a, dx, fs, e1, e2, e3, ?_⟩
    refine r σ A B0 H0 (R.news n0) ds1 h6 _ fun vs B1 H1 f1 n1 q1 => ?_
    rw [List.append_nil]
    have nn := n0.trans n1
    exact call_pure n1.sub (repL_cons (q0.news n1) q1) (by rw [← D.frzL_length]; exact har _ _ h3) h3 h4 fun v B3 H3 fq n3 r3 f3 => q v B3 H3 fq (nn.trans n3) r3 (fresh_trans nn f3)
  · cases h5
theorem ev_methP0 {c : Nat} (hC : Cls X.K (cl c)) (hM : Meth X.K (cl c) m f) (F : FnOk X.prog X.w X.K X.mg X.base CX0 k f fd ps (SpF X.K cl [] ps.length g)) (hr : Room k X.A) (hb : Binds X.K fd ps []) (har : Ar ps.length g) (ho : EvV X cl o me)
    (ht : eval (.Call (.Attribute o m apos) [] [] pos) X.env = (do
      let ov ← eval o X.env
      standAt apos.atName
      let (f, first) ← holding [ov] (getMethod ov m pl)
      callWith pos f first (backTo pos (starEach [] X.env)) (backToKw pos (keywordEach [] X.env))) := by rfl) :
    EvD X cl (.Call (.Attribute o m apos) [] [] pos) (mPos g (mRecv c m me mNil)) := by
  obtain ⟨t0, p0, r0⟩ := ho
  refine ⟨_, pe_meth0 p0 hC hM F hr hb .nil pass0 ht, fun σ A B H R d h Q q => ?_⟩
  obtain ⟨ds, A', h1, h3, h4⟩ := mPos_some h
  unfold mRecv at h1
  simp only [Option.bind_eq_some_iff] at h1
  obtain ⟨d0, h1, h5⟩ := h1
  split at h5
  · rename_i hio
    simp only [mNil, Option.map_some] at h5
    cases h5
    refine r0 σ A B H R d0 h1 _ fun v0 B0 H0 f0 n0 q0 => ?_
    obtain ⟨a, dx, fs, e1, e2, e3⟩ := isObj_view hio n0.sub q0
    refine ⟨a, dx, fs, e1, e2, e3, ?_⟩
    exact call_pure (E := E0) n0.sub (repL_cons q0 repL_nil) (by rw [← D.frzL_length]; exact har _ _ h3) h3 h4 fun v B3 H3 fq n3 r3 f3 => q v B3 H3 fq (n0.trans n3) r3 (fresh_trans n0 f3)
  · cases h5
/-- keyword-only defaults, no others -/
theorem kbs0 {K : PySem.W.Frag} {qual : Str} {params : Arguments} {body : List Stmt} {scope : Scope} {kws : List (Str × V)} (F : FunD K x qual params body scope [] kws f fd) (n : Nat) (ks : List Str) (ms : List (Str × V)) (src : List Src) (cs : List D) (hk : kws ≠ []) (hms : ∀ q ∈ ms, q ∈ kws)
    (hcs : ∀ cl B H, RepL K cl B H cs (ms.map (·.2)) [])
    (h : ∀ (D : Addr) (doc pm : Value) (an : Option Addr) (cdv ct : Value) (us mv ws : List Value), us.length = n → mv.length = ms.length → ws.length = ks.length →
      KwChain D ((ms.map (·.1)).zip mv) (bindArgs (PySem.W.fnOf x qual params body scope .none (.ref D) doc pm an cdv ct) ⟨us, ks.zip ws⟩) (ps.zip (gsel src us ws mv))) : KBs K fd ps n ks src cs (ms.map (·.2)) := by
  obtain ⟨mv, hb⟩ := F.kbinds0 (ps := ps) n ks ms (fun us mv ws => gsel src us ws mv) hk hms (fun r1 r2 r3 => vals_gsel r1 r3 r2 src) h
  exact ⟨⟨mv, hb⟩, hcs⟩
/-- positional defaults -/
theorem kbsD {K : PySem.W.Frag} {qual : Str} {params : Arguments} {body : List Stmt} {scope : Scope} {dvs : List V} {kws : List (Str × V)} (F : FunD K x qual params body scope dvs kws f fd) (n : Nat) (ks : List Str) (src : List Src) (cs : List D) (hd : dvs ≠ [])
    (hcs : ∀ cl B H, RepL K cl B H cs dvs [])
    (h : ∀ (T : Addr) (kV doc pm : Value) (an : Option Addr) (cdv ct : Value) (us its ws : List Value), us.length = n → its.length = dvs.length → ws.length = ks.length →
      ∃ k, bindArgs (PySem.W.fnOf x qual params body scope (.ref T) kV doc pm an cdv ct) ⟨us, ks.zip ws⟩ = seqItems? (.ref T) >>= k ∧ k (some its.toArray) = pure (ps.zip (gsel src us ws its))) : KBs K fd ps n ks src cs dvs := by
  obtain ⟨its, hb⟩ := F.kbindsD (ps := ps) n ks (fun us its ws => gsel src us ws its) hd (fun r1 r2 r3 => vals_gsel r1 r3 r2 src) h
  exact ⟨⟨its, hb⟩, hcs⟩
/-- as many as are asked -/
def mN (n : Nat) (ms : Ev → Option (List D)) : Ev → Option (List D) := fun A => (ms A).bind fun ds => if ds.length = n then some ds else none
theorem len_nil : ∀ (A : Ev) (ds : List D), mNil A = some ds → ds.length = 0 := fun A ds h => by cases h; rfl
theorem len_cons {n : Nat} (h : ∀ (A : Ev) (ds : List D), ms A = some ds → ds.length = n) : ∀ (A : Ev) (ds : List D), mCons me ms A = some ds → ds.length = n + 1 := fun A ds hd => by
  obtain ⟨d, r, h1, h2, rfl⟩ := mCons_some hd
  rw [List.length_cons, h A r h2]
end
/-! iterables of any kind that is not told beforehand -/
section
variable {X : Cx} {cl : Nat → Addr} {tg e : Expr} {me : Ev → Option D}
def items' : D → Option (List D)
  | .lst _ xs => some xs
  | .tup xs => some xs
  | .ktup xs => some xs
  | .str x => some (signs x)
  | _ => none
def mItems' (m : Ev → Option D) : Ev → Option (List D) := fun A => (m A).bind fun d => items' d.frz
theorem vi_any (h : EvD X cl e me) : VI_ X cl tg e (mItems' me) := by
  obtain ⟨w1, p1, r1⟩ := vi_seq (tg := tg) h
  obtain ⟨w2, p2, r2⟩ := vi_str (tg := tg) h.v
  refine ⟨_, PI.or p1 p2, fun σ A B H R0 ds hd R q => ?_⟩
  unfold mItems' at hd
  simp only [Option.bind_eq_some_iff] at hd
  obtain ⟨d, h1, h2⟩ := hd
  cases d <;> simp only [D.frz, items'] at h2 <;> try (cases h2; done)
  case str x =>
    refine .inr (r2 σ A B H R0 ds ?_ R q)
    unfold mSigns
    rw [h1]; exact h2
  all_goals
    refine .inl (r1 σ A B H R0 ds ?_ R q)
    unfold mItems
    rw [h1]
    simp only [Option.bind_some, D.frz, items]
    exact h2
end
end VI
set_option Elab.async false
set_option linter.all false
set_option maxRecDepth 100000
set_option autoImplicit false
namespace VI
open PySem L2
section
variable {X : Cx} {cl : Nat → Addr} {e o f : Expr} {mo mk mf : Ev → Option D} {apos cpos : Pos}
/-- what a table answers at a key -/
def getD1 (x k : D) : Option (Option D) := match x with
  | .dct _ ks xs => (keyD k).map fun k => look ks xs k
  | .dtt _ ks xs => (match k with
    | .tup kk => (keysD kk).map fun k => look ks xs k
    | _ => none)
  | _ => none
def mGet1 (mo mk : Ev → Option D) : Ev → Option D := fun A => (mo A).bind fun x => (mk A).bind fun k => (getD1 x k).map fun r => r.getD .non
def mGet2 (mo mk mf : Ev → Option D) : Ev → Option D := fun A => (mo A).bind fun x => (mk A).bind fun k => (mf A).bind fun z => (getD1 x k).map fun r => r.getD z
theorem isD_view {K : PySem.W.Frag} {B H : Hp} {x k : D} {r : Option D} {v : V} {fp : List Addr} (s : BLe B H) (rp : Rep K cl B H x v fp) (h : getD1 x k = some r) : ∃ a, v = .ref a ∧ IsD H a := by
  unfold getD1 at h
  split at h
  · obtain ⟨a, vs, fq, e1, q1, _⟩ := rp.dct_view s
    exact ⟨a, e1, .inl ⟨_, q1⟩⟩
  · obtain ⟨a, vs, fq, e1, q1, _⟩ := rp.dtt_view s
    exact ⟨a, e1, .inr ⟨_, q1⟩⟩
  · cases h
def GotV (K : PySem.W.Frag) (cl : Nat → Addr) (B H : Hp) (r : Option D) (o : Option V) : Prop := (∀ d, r = some d → ∃ w f, o = some w ∧ Rep K cl B H d w f) ∧ (r = none → o = none)
theorem got_look {κ : Type} [DecidableEq κ] {K : PySem.W.Frag} {B H : Hp} {ks : List κ} {xs : List D} {vs : List V} {fq : List Addr} (l : ks.length = xs.length) (q2 : RepL K cl B H xs vs fq) (k : κ) : GotV K cl B H (look ks xs k) (valV (ks.zip vs) k) :=
  ⟨fun d e => let ⟨w, f, h1, h2, _⟩ := look_rep l q2 e; ⟨w, f, h1, h2⟩, fun e => look_no l q2 e⟩
theorem get_view {K : PySem.W.Frag} {B H : Hp} {x k : D} {r : Option D} {v kv : V} {f1 f2 : List Addr} (s : BLe B H) (rp : Rep K cl B H x v f1) (rk : Rep K cl B H k kv f2) (h : getD1 x k = some r) :
    ∃ a, v = .ref a ∧ ∃ o, DGet H a kv o ∧ GotV K cl B H r o := by
  cases x <;> simp only [getD1] at h <;> try (cases h; done)
  case dct m ks xs =>
    simp only [Option.map_eq_some_iff] at h
    obtain ⟨kk, hk, rfl⟩ := h
    obtain ⟨a, vs, fq, e1, q1, l, q2⟩ := rp.dct_view s
    exact ⟨a, e1, valV (ks.zip vs) kk, .inl ⟨_, kk, q1, keyD_v hk rk, rfl⟩, got_look l q2 kk⟩
  case dtt m ks xs =>
    cases k <;> simp only at h <;> try (cases h; done)
    case tup kl =>
      simp only [Option.map_eq_some_iff] at h
      obtain ⟨kk, hk, rfl⟩ := h
      obtain ⟨a, vs, fq, e1, q1, l, q2⟩ := rp.dtt_view s
      obtain ⟨tb, tv, e3, q3, q4⟩ := rk.tup_view s
      rw [keysD_v hk q4] at q3
      exact ⟨a, e1, valV (ks.zip vs) kk, .inr ⟨_, kk, tb, q1, e3, q3, rfl⟩, got_look l q2 kk⟩
theorem ev_get1 (hu : X.A.units + 64 < cLine) (ho : EvV X cl o mo) (he : EvV X cl e mk) (m : M1 X o "get" apos e cpos := by exact ⟨rfl, rfl, rfl, rfl⟩) : EvV X cl (.Call (.Attribute o "get" apos) [e] [] cpos) (mGet1 mo mk) := by
  obtain ⟨t, p, r⟩ := ho
  obtain ⟨t2, p2, r2⟩ := he
  refine ⟨_, pe_dget1 (by omega) p p2 m, fun σ A B H R d hd Q q => ?_⟩
  unfold mGet1 at hd
  simp only [Option.bind_eq_some_iff, Option.map_eq_some_iff] at hd
  obtain ⟨x, hx, k, hk, o, ho, rfl⟩ := hd
  refine r σ A B H R x hx _ fun v B1 H1 f1 n1 r1 => ?_
  obtain ⟨a, e1, i1⟩ := isD_view n1.sub r1 ho
  refine ⟨a, e1, i1, r2 σ A B1 H1 (R.news n1) k hk _ fun kv B2 H2 f2 n2 rk => ?_⟩
  obtain ⟨a2, e2, w, g1, g2⟩ := get_view n2.sub (r1.news n2) rk ho
  rw [e1] at e2; cases e2
  refine ⟨w, g1, ?_⟩
  cases o with
  | none => have g3 := g2.2 rfl; subst g3; exact q _ B2 H2 [] (n1.trans n2) rep_non
  | some d => obtain ⟨w', f, h1, h2⟩ := g2.1 d rfl; subst h1; exact q _ B2 H2 f (n1.trans n2) h2
theorem ev_get2 (hu : X.A.units + 64 < cLine) (ho : EvV X cl o mo) (he : EvV X cl e mk) (hf : EvV X cl f mf) (m : M2 X o "get" apos e f cpos := by exact ⟨rfl, rfl, rfl, rfl⟩) : EvV X cl (.Call (.Attribute o "get" apos) [e, f] [] cpos) (mGet2 mo mk mf) := by
  obtain ⟨t, p, r⟩ := ho
  obtain ⟨t2, p2, r2⟩ := he
  obtain ⟨t3, p3, r3⟩ := hf
  refine ⟨_, pe_dget2 (by omega) p p2 p3 m, fun σ A B H R d hd Q q => ?_⟩
  unfold mGet2 at hd
  simp only [Option.bind_eq_some_iff, Option.map_eq_some_iff] at hd
  obtain ⟨x, hx, k, hk, z, hz, o, ho, rfl⟩ := hd
  refine r σ A B H R x hx _ fun v B1 H1 f1 n1 r1 => ?_
  obtain ⟨a, e1, i1⟩ := isD_view n1.sub r1 ho
  refine ⟨a, e1, i1, r2 σ A B1 H1 (R.news n1) k hk _ fun kv B2 H2 f2 n2 rk => ?_⟩
  refine r3 σ A B2 H2 ((R.news n1).news n2) z hz _ fun zv B3 H3 f3 n3 rz => ?_
  obtain ⟨a2, e2, w, g1, g2⟩ := get_view n3.sub ((r1.news n2).news n3) (rk.news n3) ho
  rw [e1] at e2; cases e2
  refine ⟨w, g1, ?_⟩
  have nn := n1.trans (n2.trans n3)
  cases o with
  | none => have g3 := g2.2 rfl; subst g3; exact q _ B3 H3 f3 nn rz
  | some d => obtain ⟨w', f, h1, h2⟩ := g2.1 d rfl; subst h1; exact q _ B3 H3 f nn h2
end
end VI
set_option Elab.async false
set_option linter.all false
set_option maxRecDepth 100000
set_option autoImplicit false
namespace VI
open PySem L2
section
variable {K : PySem.W.Frag} {cl : Nat → Addr} {G : GS} {B H B' H' : Hp} {σ σ' : St} {A A' : Ev} {F F' : Nat → List Addr}
/-- a dict that B tells is locked -/
def dicty : HO → Bool
  | .dK _ => true
  | .dT _ => true
  | _ => false
def GS.lock (G : GS) (a : Addr) (od : Obj) (u : HO) : GS := { G with lk := (a, od, u) :: G.lk }
theorem BLe.lock {a : Addr} {od : Obj} {u : HO} (s : BLe B H) (hu : dicty u = true) (h : H a = some u) : BLe B (upd H a (.frz od u)) := by
  refine ⟨fun p w r => ?_, fun p C dx fs e => ?_, fun p vs e => ?_, fun p vs e => ?_⟩
  · by_cases hp : p = a
    · subst hp
      rcases s.rd p w r with q | ⟨o, q⟩
      · rw [h] at q; cases q; exact .inr ⟨od, upd_same⟩
      · rw [h] at q; cases q; cases hu
    · rcases s.rd p w r with q | ⟨o, q⟩
      · exact .inl (by rw [upd_ne hp]; exact q)
      · exact .inr ⟨o, by rw [upd_ne hp]; exact q⟩
  · have q := s.ins _ _ _ _ e
    rw [upd_ne (fun hp => by rw [hp, h] at q; cases q; cases hu)]; exact q
  · have q := s.lst _ _ e
    rw [upd_ne (fun hp => by rw [hp, h] at q; cases q; cases hu)]; exact q
  · have q := s.tup _ _ e
    rw [upd_ne (fun hp => by rw [hp, h] at q; cases q; cases hu)]; exact q
theorem Good.lock {a : Addr} {od : Obj} {u : HO} (g : Good K cl G B H σ A F) (hu : dicty u = true) (hB : B a ≠ none) (h : H a = some u) : Good K cl (G.lock a od u) B (upd H a (.frz od u)) σ A F where
  sub := g.sub.lock hu h
  len := g.len
  at_ := fun i d e => by
    obtain ⟨v, h1, h2⟩ := g.at_ i d e
    exact ⟨v, h1, h2.mono (BLe.refl B) fun b z => upd_ne fun e2 => hB (e2 ▸ g.nb i b z)⟩
  emp := g.emp
  nd := g.nd
  dis := g.dis
  nb := g.nb
  le0 := g.le0
  fr := fun b o e hs => by
    rcases g.fr b o e hs with q | ⟨p, hp, e1, e2⟩
    · by_cases hb : b = a
      · subst hb
        rw [h] at q; cases q
        exact .inr ⟨(b, od, u), List.mem_cons_self .., rfl, rfl⟩
      · exact .inl (by rw [upd_ne hb]; exact q)
    · exact .inr ⟨p, List.mem_cons_of_mem _ hp, e1, e2⟩
  own := g.own
  bnew := g.bnew
  keep := g.keep
  lkd := fun p hp => by
    rcases List.mem_cons.mp hp with e | hp
    · subst e; exact upd_same
    · have q := g.lkd p hp
      rw [upd_ne (fun e => by rw [e, h] at q; cases q; cases hu)]; exact q
theorem Good.unlock {a : Addr} {od : Obj} {u : HO} (g0 : Good K cl G B H σ A F) (hu : dicty u = true) (hB : B a = some u) (h : H a = some u) (g : Good K cl (G.lock a od u) B' H' σ' A' F') (hBB : BEx B B') : Good K cl G B' (upd H' a u) σ' A' F' where
  sub := by
    have hB' : B' a = some u := hBB _ _ hB
    have hH' : H' a = some (.frz od u) := g.lkd (a, od, u) (List.mem_cons_self ..)
    refine ⟨fun p w r => ?_, fun p C dx fs e => ?_, fun p vs e => ?_, fun p vs e => ?_⟩
    · by_cases hp : p = a
      · subst hp
        rcases r with r | ⟨o, r⟩
        · rw [hB'] at r; cases r; exact .inl upd_same
        · rw [hB'] at r; cases r; cases hu
      · rcases g.sub.rd p w r with q | ⟨o, q⟩
        · exact .inl (by rw [upd_ne hp]; exact q)
        · exact .inr ⟨o, by rw [upd_ne hp]; exact q⟩
    · rw [upd_ne (fun hp => by rw [hp, hB'] at e; cases e; cases hu)]; exact g.sub.ins _ _ _ _ e
    · rw [upd_ne (fun hp => by rw [hp, hB'] at e; cases e; cases hu)]; exact g.sub.lst _ _ e
    · rw [upd_ne (fun hp => by rw [hp, hB'] at e; cases e; cases hu)]; exact g.sub.tup _ _ e
  len := g.len
  at_ := fun i d e => by
    obtain ⟨v, h1, h2⟩ := g.at_ i d e
    exact ⟨v, h1, h2.mono (BLe.refl B') fun b z => upd_ne fun e2 => by have := g.nb i b z; rw [e2, hBB _ _ hB] at this; cases this⟩
  emp := g.emp
  nd := g.nd
  dis := g.dis
  nb := g.nb
  le0 := g.le0
  fr := fun b o e hs => by
    by_cases hb : b = a
    · subst hb
      rcases g0.fr b o e hs with q | ⟨p, hp, e1, e2⟩
      · rw [h] at q; cases q; exact .inl upd_same
      · have q := g0.lkd p hp; rw [e1, h] at q; cases q; cases hu
    · rcases g.fr b o e hs with q | ⟨p, hp, e1, e2⟩
      · exact .inl (by rw [upd_ne hb]; exact q)
      · rcases List.mem_cons.mp hp with z | hp
        · subst z; exact absurd e1.symm hb
        · exact .inr ⟨p, hp, e1, e2⟩
  own := g.own
  bnew := g.bnew
  keep := g.keep
  lkd := fun p hp => by
    have q := g.lkd p (List.mem_cons_of_mem _ hp)
    have q0 := g0.lkd p hp
    rw [upd_ne (fun e => by rw [e, h] at q0; cases q0; cases hu)]; exact q
/-- one that is frozen already is held as a lock, too -/
theorem Good.hold {a : Addr} {od : Obj} {u : HO} (g : Good K cl G B H σ A F) (h : H a = some (.frz od u)) : Good K cl (G.lock a od u) B H σ A F :=
  ⟨g.sub, g.len, g.at_, g.emp, g.nd, g.dis, g.nb, g.le0, fun b o e hs => (g.fr b o e hs).imp id fun ⟨p, hp, e1, e2⟩ => ⟨p, List.mem_cons_of_mem _ hp, e1, e2⟩, g.own, g.bnew, g.keep, fun p hp => by
    rcases List.mem_cons.mp hp with e | hp
    · subst e; exact h
    · exact g.lkd p hp⟩
theorem Good.unhold {a : Addr} {od : Obj} {u : HO} (g0 : Good K cl G B H σ A F) (h : H a = some (.frz od u)) (g : Good K cl (G.lock a od u) B' H' σ' A' F') : Good K cl G B' H' σ' A' F' :=
  ⟨g.sub, g.len, g.at_, g.emp, g.nd, g.dis, g.nb, g.le0, fun b o e hs => by
    rcases g.fr b o e hs with q | ⟨p, hp, e1, e2⟩
    · exact .inl q
    · rcases List.mem_cons.mp hp with z | hp
      · subst z
        have hH' : H' a = some (.frz od u) := g.lkd (a, od, u) (List.mem_cons_self ..)
        have e1 : a = b := e1
        subst e1
        rcases g0.fr a o e hs with q | ⟨p, hp, e3, e4⟩
        · rw [h] at q; cases q; exact .inl hH'
        · exact .inr ⟨p, hp, e3, e4⟩
      · exact .inr ⟨p, hp, e1, e2⟩, g.own, g.bnew, g.keep, fun p hp => g.lkd p (List.mem_cons_of_mem _ hp)⟩
end
/-! a reading that makes nothing -/
section
variable {X : Cx} {cl : Nat → Addr} {mu : List Nat} {e tg : Expr} {m : Ev → Option D} {pos : Pos}
def EvR (X : Cx) (cl : Nat → Addr) (e : Expr) (m : Ev → Option D) : Prop := ∃ (t : TE) (val : St → Hp → Option V), PE X e t ∧
  (∀ σ H H' v, (∀ a C dx fs, H a = some (.ins C dx fs) → H' a = some (.ins C dx fs)) → val σ H = some v → val σ H' = some v) ∧
  (∀ σ A B H, REnv X.K cl B H σ A → ∀ d, m A = some d → ∃ v fp, val σ H = some v ∧ Rep X.K cl B H d v fp ∧ ∀ Q : VK, Q v H → t σ H Q)
theorem er_var {i : Nat} (h : PE X e (tVar i)) : EvR X cl e (mV i) := by
  refine ⟨_, fun σ _ => σ[i]?.join, h, fun σ H H' v _ hv => hv, fun σ A B H R d hd => ?_⟩
  obtain ⟨v, fp, e1, r⟩ := R.at_ i d (by
    unfold mV at hd
    cases q : A[i]? with
    | none => rw [q] at hd; cases hd
    | some o => rw [q] at hd; cases o with
      | none => cases hd
      | some d' => cases hd; rfl)
  exact ⟨v, fp, by show σ[i]?.join = some v; rw [e1]; rfl, r, fun Q q => ⟨v, e1, q⟩⟩
theorem er_fld {c : Nat} {f : Str} (hC : Cls X.K (cl c)) (hN : NoAttr X.K (cl c) f) (h : EvR X cl e m) (hb : attributeBase e f X.env (eval e X.env) = eval e X.env := by rfl) : EvR X cl (.Attribute e f pos) (mFld c f m) := by
  obtain ⟨t, val, p, h1, h2⟩ := h
  refine ⟨_, fun σ H => (val σ H).bind fun v => match v with | .ref a => (match H a with | some (.ins C dx fs) => fs.lookup f | _ => none) | _ => none, pe_fld p hb, fun σ H H' v hs hv => ?_, fun σ A B H R d hd => ?_⟩
  · simp only [Option.bind_eq_some_iff] at hv ⊢
    obtain ⟨w, e1, e2⟩ := hv
    refine ⟨w, h1 σ H H' w hs e1, ?_⟩
    cases w <;> simp only at e2 ⊢ <;> try (cases e2; done)
    rename_i a
    split at e2
    · rename_i C dx fs hh
      rw [hs _ _ _ _ hh]; exact e2
    · cases e2
  · unfold mFld at hd
    split at hd
    · rename_i mm c' fs xs hm
      by_cases hc : c' = c
      · rw [if_pos hc] at hd
        subst hc
        obtain ⟨v, fp, e1, rp, e2⟩ := h2 σ A B H R _ hm
        obtain ⟨a, dx, vs, fq, e3, q1, l, q2⟩ := rp.obj_view R.sub
        obtain ⟨w, f', k1, k2, _⟩ := zip_fld l q2 hd
        subst e3
        exact ⟨w, f', by simp only [e1, Option.bind_some, q1]; exact k1, k2, fun Q q => e2 _ ⟨a, _, dx, _, w, rfl, q1, hC, hN, k1, q⟩⟩
      · rw [if_neg hc] at hd; cases hd
    · cases hd
/-- keys as trees -/
def keyV : Key → D
  | .inl i => .int i
  | .inr s => .str s
theorem rep_key {K : PySem.W.Frag} {B H : Hp} {k : Key} : Rep K cl B H (keyV k) (kV k) [] := by
  cases k
  · exact rep_int
  · exact rep_str
theorem repL_key {K : PySem.W.Frag} {B H : Hp} : ∀ {ks : List Key}, RepL K cl B H (ks.map keyV) (ks.map kV) []
  | [] => repL_nil
  | k :: ks => repL_cons (f := []) (g := []) rep_key repL_key
/-- what a loop over a dict walks -/
def keysOf : D → Option (List D)
  | .dct false ks _ => some (ks.map keyV)
  | .dtt false ks _ => some (ks.map fun k => .tup (k.map keyV))
  | _ => none
/-- a tuple that stands is told -/
theorem New.tell {B H : Hp} {q : Addr} {us : List V} (s : BLe B H) (h : H q = some (.tup us)) : New B H (upd B q (.tup us)) H := by
  refine ⟨fun _ _ e => e, fun a u e => ?_, ⟨fun a w r => ?_, fun a C dx fs e => ?_, fun a vs e => ?_, fun a vs e => ?_⟩, fun a e => ?_⟩
  · by_cases ha : a = q
    · subst ha
      rcases s.rd a u (.inl e) with r | ⟨o, r⟩
      · rw [h] at r; cases r; exact upd_same
      · rw [h] at r; cases r
    · rw [upd_ne ha]; exact e
  · by_cases ha : a = q
    · subst ha
      have e1 : upd B a (.tup us) a = some (.tup us) := upd_same
      rcases r with r | ⟨o, r⟩
      · rw [e1] at r; cases r; exact .inl h
      · rw [e1] at r; cases r
    · exact s.rd a w (by rcases r with r | ⟨o, r⟩ <;> rw [upd_ne ha] at r; exact .inl r; exact .inr ⟨o, r⟩)
  · by_cases ha : a = q
    · subst ha; rw [upd_same] at e; cases e
    · rw [upd_ne ha] at e; exact s.ins _ _ _ _ e
  · by_cases ha : a = q
    · subst ha; rw [upd_same] at e; cases e
    · rw [upd_ne ha] at e; exact s.lst _ _ e
  · by_cases ha : a = q
    · subst ha; rw [upd_same] at e; cases e; exact h
    · rw [upd_ne ha] at e; exact s.tup _ _ e
  · by_cases ha : a = q
    · exact .inr (.inr ⟨us, ha ▸ h⟩)
    · rw [upd_ne ha] at e; exact .inl e
structure ItOkL (K : PySem.W.Frag) (cl : Nat → Addr) (J : It) (ds : List D) (B : Hp) (L : Hp → Prop) : Prop where
  go : ∀ B' H, BLe B B' → BLe B' H → L H → ∀ (i : Nat) (d : D), ds[i]? = some d → J.go i H ∧ ∀ x H', J.yld i H x H' → ∃ B'', New B' H B'' H' ∧ Rep K cl B'' H' d x []
  stop : ∀ B' H, BLe B B' → BLe B' H → L H → ∀ i, ds.length ≤ i → J.stop i H
theorem it_keys {K : PySem.W.Frag} {B : Hp} {a : Addr} {od : Obj} {ks : List Key} {vs : List V} (hl : ks.length = vs.length) : ItOkL K cl (Itk a od (ks.zip vs)) (ks.map keyV) B (fun H => H a = some (.frz od (.dK (ks.zip vs)))) where
  go := fun B' H le s hL i d hd => by
    rw [List.getElem?_map] at hd
    cases hk : ks[i]? with
    | none => rw [hk] at hd; cases hd
    | some k =>
      rw [hk] at hd; cases hd
      have hlt := (List.getElem?_eq_some_iff.mp hk).1
      refine ⟨⟨hL, by rw [List.length_zip]; omega⟩, fun x H' y => ?_⟩
      obtain ⟨e, k', v', e1, e2⟩ := y
      subst e e2
      have e3 := List.getElem?_zip_eq_some.mp e1
      rw [hk] at e3; cases e3.1
      exact ⟨B', New.refl s, rep_key⟩
  stop := fun B' H le s hL i hi => ⟨hL, by rw [List.length_zip]; simp at hi; omega⟩
theorem it_keysT {K : PySem.W.Frag} {B : Hp} {a : Addr} {od : Obj} {ks : List (List Key)} {vs : List V} (hl : ks.length = vs.length) : ItOkL K cl (Itkt a od (ks.zip vs)) (ks.map fun k => D.tup (k.map keyV)) B (fun H => H a = some (.frz od (.dT (ks.zip vs)))) where
  go := fun B' H le s hL i d hd => by
    rw [List.getElem?_map] at hd
    cases hk : ks[i]? with
    | none => rw [hk] at hd; cases hd
    | some k =>
      rw [hk] at hd; cases hd
      have hlt := (List.getElem?_eq_some_iff.mp hk).1
      refine ⟨⟨hL, by rw [List.length_zip]; omega⟩, fun x H' y => ?_⟩
      obtain ⟨e, k', v', q, e1, e2, e4⟩ := y
      subst e e2
      have e3 := List.getElem?_zip_eq_some.mp e1
      have e5 : k = k' := by rw [hk] at e3; exact Option.some.inj e3.1
      subst e5
      refine ⟨_, New.tell s e4, ?_⟩
      simp only [Rep]
      exact ⟨q, _, rfl, upd_same, repL_key⟩
  stop := fun B' H le s hL i hi => ⟨hL, by rw [List.length_zip]; simp at hi; omega⟩
/-- a loop over what J walks, under L -/
theorem for_run {X : Cx} {cl : Nat → Addr} {mu : List Nat} {g : D → Ev → Option Ev} {mb : SM} {t2 : TG} {t3 : TS} {J : It} {ds : List D} {B0 H0 : Hp} {σ : St} {A : Ev} {F : Nat → List Addr} {G : GS} {L : Hp → Prop} {Dn : Ends} {out : SOut}
    (r2 : ∀ (G : GS) σ A B H F, (∀ p ∈ G.kp, p.1 ∈ mu) → Good X.K cl G B H σ A F → ∀ d v, Rep X.K cl B H d v [] → ∀ A', g d A = some A' → ∀ Q, (∀ σ' F', Good X.K cl G B H σ' A' F' → Q σ' H) → t2 v σ H Q)
    (r3 : ∀ (G : GS) σ A B H F, (∀ p ∈ G.kp, p.1 ∈ mu) → Good X.K cl G B H σ A F → ∀ out, mb A = some out → ∀ Dn, EndsOk X.K cl G Dn out → t3 Dn σ H)
    (hk : ∀ p ∈ G.kp, p.1 ∈ mu) (g1 : Good X.K cl G B0 H0 σ A F) (it : ItOkL X.K cl J ds B0 L) (hL : ∀ B H σ A F, Good X.K cl { G with B0 := B0 } B H σ A F → L H)
    (h2 : forL (fun d A => (g d A).bind mb) ds A = some out) (ok : EndsOk X.K cl G Dn out) :
    ∃ W : Nat → Nat → St → Hp → Prop, (∃ m, W 0 m σ H0) ∧ ∀ i m σ H, W i m σ H → (J.stop i H ∧ Dn.nx σ H) ∨ (J.go i H ∧ ∃ N : St → Hp → Prop, (∀ σ' H', N σ' H' → ∃ m', m' < m ∧ W (i + 1) m' σ' H') ∧ ∀ x H1, J.yld i H x H1 → t2 x σ H1 fun σ2 H2 => t3 { Dn with nx := N, ct := N, bk := Dn.nx } σ2 H2) := by
  refine ⟨fun i m σ' H' => m = ds.length - i ∧ i ≤ ds.length ∧ ∃ A' B' F', Good X.K cl { G with B0 := B0 } B' H' σ' A' F' ∧ forL (fun d A => (g d A).bind mb) (ds.drop i) A' = some out, ⟨ds.length, by simp, Nat.zero_le _, A, B0, F, g1.reB, h2⟩, ?_⟩
  rintro i m σ' H' ⟨rfl, hi, A', B', F', g2, run⟩
  by_cases hlt : i < ds.length
  · have hd : ds[i]? = some ds[i] := by simp [hlt]
    obtain ⟨go, yl⟩ := it.go B' H' g2.le0.le g2.sub (hL _ _ _ _ _ g2) i _ hd
    rw [List.drop_eq_getElem_cons hlt] at run
    refine .inr ⟨go, fun σ2 H2 => ∃ A2 B2 F2, Good X.K cl { G with B0 := B0 } B2 H2 σ2 A2 F2 ∧ forL (fun d A => (g d A).bind mb) (ds.drop (i + 1)) A2 = some out, ?_, ?_⟩
    · rintro σ2 H2 ⟨A2, B2, F2, g3, run2⟩
      exact ⟨ds.length - (i + 1), by omega, rfl, hlt, A2, B2, F2, g3, run2⟩
    · intro x H1 hy
      obtain ⟨B1, n1, rp⟩ := yl x H1 hy
      have g3 := g2.news n1
      rw [forL] at run
      cases hbd : (g ds[i] A').bind mb with
      | none => rw [hbd] at run; cases run
      | some o =>
        rw [hbd] at run
        simp only [Option.bind_eq_some_iff] at hbd
        obtain ⟨A1, k1, k2⟩ := hbd
        refine r2 { G with B0 := B0 } σ' A' B1 H1 F' hk g3 _ x rp A1 k1 _ fun σ2 F2 g4 => ?_
        refine r3 { G with B0 := B0 } σ2 A1 B1 H1 F2 hk g4 o k2 _ ?_
        cases o with
        | nx A2 => exact fun σ3 B3 H3 F3 g5 => ⟨A2, B3, F3, g5, run⟩
        | ct A2 => exact fun σ3 B3 H3 F3 g5 => ⟨A2, B3, F3, g5, run⟩
        | bk A2 => cases run; exact fun σ3 B3 H3 F3 g5 => ok σ3 B3 H3 F3 (g1.unB g5)
        | rt d A2 => cases run; exact fun σ3 B3 H3 F3 v fp g5 rp w => ok σ3 B3 H3 F3 v fp (g1.unB g5) rp ⟨w.nd, w.nb, w.own, w.dis⟩
  · have e : i = ds.length := by omega
    subst e
    rw [List.drop_length] at run
    cases run
    exact .inl ⟨it.stop B' H' g2.le0.le g2.sub (hL _ _ _ _ _ g2) _ (Nat.le_refl _), ok σ' B' H' F' (g1.unB g2)⟩
variable {K : PySem.W.Frag} {G : GS} {B H : Hp} {σ : St} {A : Ev} {F : Nat → List Addr}
theorem ends_lock {a : Addr} {od : Obj} {u : HO} {Dn : Ends} {out : SOut} (g0 : Good K cl G B H σ A F) (hu : dicty u = true) (hB : B a = some u) (h : H a = some u) (ok : EndsOk K cl G Dn out) :
    EndsOk K cl (({ G with B0 := B } : GS).lock a od u) ⟨fun σ' H' => H' a = some (.frz od u) ∧ Dn.nx σ' (upd H' a u), fun v H' => H' a = some (.frz od u) ∧ Dn.rt v (upd H' a u), fun σ' H' => H' a = some (.frz od u) ∧ Dn.bk σ' (upd H' a u), fun σ' H' => H' a = some (.frz od u) ∧ Dn.ct σ' (upd H' a u)⟩ out := by
  have key : ∀ {σ' : St} {B' H' : Hp} {A' : Ev} {F' : Nat → List Addr}, Good K cl (({ G with B0 := B } : GS).lock a od u) B' H' σ' A' F' → H' a = some (.frz od u) ∧ Good K cl G B' (upd H' a u) σ' A' F' := fun {σ' B' H' A' F'} g => by
    have q := g.lkd (a, od, u) (List.mem_cons_self ..)
    exact ⟨q, g0.unB (g0.reB.unlock hu hB h g g.le0)⟩
  cases out with
  | nx A' => exact fun σ' B' H' F' g => ⟨(key g).1, ok σ' B' _ F' (key g).2⟩
  | bk A' => exact fun σ' B' H' F' g => ⟨(key g).1, ok σ' B' _ F' (key g).2⟩
  | ct A' => exact fun σ' B' H' F' g => ⟨(key g).1, ok σ' B' _ F' (key g).2⟩
  | rt d A' => exact fun σ' B' H' F' v fp g rp w => ⟨(key g).1, ok σ' B' _ F' v fp (key g).2 (rp.mono (BLe.refl B') fun b z => upd_ne fun e => by have := w.nb b z; rw [e, g.le0 _ _ hB] at this; cases this) ⟨w.nd, w.nb, w.own, w.dis⟩⟩
theorem ends_hold {a : Addr} {od : Obj} {u : HO} {Dn : Ends} {out : SOut} (g0 : Good K cl G B H σ A F) (h : H a = some (.frz od u)) (ok : EndsOk K cl G Dn out) : EndsOk K cl (({ G with B0 := B } : GS).lock a od u) Dn out := by
  have key : ∀ {σ' : St} {B' H' : Hp} {A' : Ev} {F' : Nat → List Addr}, Good K cl (({ G with B0 := B } : GS).lock a od u) B' H' σ' A' F' → Good K cl G B' H' σ' A' F' := fun {σ' B' H' A' F'} g => g0.unB (g0.reB.unhold h g)
  cases out with
  | nx A' => exact fun σ' B' H' F' g => ok σ' B' _ F' (key g)
  | bk A' => exact fun σ' B' H' F' g => ok σ' B' _ F' (key g)
  | ct A' => exact fun σ' B' H' F' g => ok σ' B' _ F' (key g)
  | rt d A' => exact fun σ' B' H' F' v fp g rp w => ok σ' B' _ F' v fp (key g) rp ⟨w.nd, w.nb, w.own, w.dis⟩
def tForR (t2 : TG) (t3 : TS) (Dn : Ends) (σ : St) : It → Hp → Prop := fun J H0 =>
    ∃ W : Nat → Nat → St → Hp → Prop, (∃ m, W 0 m σ H0) ∧ ∀ i m σ H, W i m σ H → (J.stop i H ∧ Dn.nx σ H) ∨ (J.go i H ∧ ∃ N : St → Hp → Prop, (∀ σ' H', N σ' H' → ∃ m', m' < m ∧ W (i + 1) m' σ' H') ∧ ∀ x H1, J.yld i H x H1 → t2 x σ H1 fun σ2 H2 => t3 { Dn with nx := N, ct := N, bk := Dn.nx } σ2 H2)
/-- for x in a dict: its keys; the dict is told (frozen), the loop locks it -/
theorem vs_forK {iter : Expr} {body : List Stmt} {g : D → Ev → Option Ev} {mb : SM} (hp : PassesOwn (model X.prog X.w) X.A X.env X.xe) (hc : X.calm = true) (hi : EvR X cl iter m) (hg : VG X cl mu tg g) (hb : VSs X cl mu body mb)
    (hs : ∀ x, foldedSetIterable iter X.env x = pure x := by intro _; rfl) : VS X cl mu (.For tg iter body [] pos) (sFor (fun A => (m A).bind keysOf) g mb) := by
  obtain ⟨t, val, p, h1, h2⟩ := hi
  obtain ⟨t2, p2, r2⟩ := hg
  obtain ⟨t3, p3, r3⟩ := hb
  refine ⟨_, PS.or (ps_lock (ps_for hp hc (pi_keys p) p2 p3 hs)) (ps_for hp hc (pi_keys p) p2 p3 hs), fun G σ A B H F hk g0 out eo Dn ok => ?_⟩
  unfold sFor at eo
  simp only [Option.bind_eq_some_iff] at eo
  obtain ⟨ds, ⟨d, hd, hds⟩, hrun⟩ := eo
  obtain ⟨v, fp, hv, rp, run⟩ := h2 σ A B H g0.renv d hd
  -- the way with a dict that holds u, walked by J
  have main : ∀ (a : Addr) (u : HO) (J : Obj → It), v = .ref a → Rd B a u → dicty u = true →
      (∀ od (B0 : Hp), ItOkL X.K cl (J od) ds B0 (fun H => H a = some (.frz od u))) →
      (∀ (H1 : Hp) (R : It → Hp → Prop) (od : Obj), H1 a = some (.frz od u) → R (J od) H1 → ∃ dd o, V.ref a = .ref dd ∧ ((∃ kvs, H1 dd = some (.frz o (.dK kvs)) ∧ R (Itk dd o kvs) H1) ∨ ∃ kvs, H1 dd = some (.frz o (.dT kvs)) ∧ R (Itkt dd o kvs) H1)) →
      tLock (tFor (iKeys t) t2 t3) Dn σ H ∨ tFor (iKeys t) t2 t3 Dn σ H := by
    intro a u J ev hB hu hit hin
    subst ev
    have hkk : ∀ (od : Obj), ∀ p ∈ (({ G with B0 := B } : GS).lock a od u).kp, p.1 ∈ mu := fun od => hk
    rcases g0.sub.rd a u hB with hH | ⟨od, hH⟩
    · have hBa : B a = some u := by
        rcases hB with q | ⟨o, q⟩
        · exact q
        · rcases g0.sub.rd a _ (.inl q) with z | ⟨o2, z⟩
          · rw [hH] at z; cases z
          · rw [hH] at z; cases z
      refine .inl ⟨a, u, hH, (by cases u <;> first | trivial | cases hu), fun od => ?_⟩
      have gl := g0.reB.lock (od := od) hu (by rw [hBa]; exact fun e => nomatch e) hH
      obtain ⟨v', fp', hv', _, run'⟩ := h2 σ A B _ gl.renv d hd
      have hv2 := h1 σ H (upd H a (.frz od u)) _ (fun b C dx fs e => by rw [upd_ne (fun q => by rw [q, hH] at e; cases e; cases hu)]; exact e) hv
      rw [hv2] at hv'; cases hv'
      exact run' _ (hin _ (tForR t2 t3 _ σ) od upd_same (for_run r2 r3 (hkk od) gl (hit od B) (fun B' H' σ' A' F' g' => g'.lkd (a, od, u) (List.mem_cons_self ..)) hrun (ends_lock g0 hu hBa hH ok)))
    · refine .inr ?_
      exact run _ (hin _ (tForR t2 t3 _ σ) od hH (for_run r2 r3 (hkk od) (g0.reB.hold hH) (hit od B) (fun B' H' σ' A' F' g' => g'.lkd (a, od, u) (List.mem_cons_self ..)) hrun (ends_hold g0 hH ok)))
  unfold keysOf at hds
  split at hds
  · rename_i ks xs
    cases hds
    simp only [Rep] at rp
    obtain ⟨a, vs, ev, q, l, r, _⟩ := rp
    exact main a _ (fun od => Itk a od (ks.zip vs)) ev q rfl (fun od B0 => it_keys (l.trans r.length)) fun H1 R od e z => ⟨a, od, rfl, .inl ⟨_, e, z⟩⟩
  · rename_i ks xs
    cases hds
    simp only [Rep] at rp
    obtain ⟨a, vs, ev, q, l, r, _⟩ := rp
    exact main a _ (fun od => Itkt a od (ks.zip vs)) ev q rfl (fun od B0 => it_keysT (l.trans r.length)) fun H1 R od e z => ⟨a, od, rfl, .inr ⟨_, e, z⟩⟩
  · cases hds
end
end VI
set_option Elab.async false
set_option linter.all false
set_option maxRecDepth 100000
set_option autoImplicit false
namespace VI
open PySem L2
/-! ### readings that are the same in every frame -/
section
variable (K : PySem.W.Frag) (cl : Nat → Addr)
def cV (m : Ev → Option D) : TE := fun σ H Q => ∃ A B d, REnv K cl B H σ A ∧ m A = some d ∧ ∀ v B' H' fp, New B H B' H' → Rep K cl B' H' d v fp → Q v H'
def cD (m : Ev → Option D) : TE := fun σ H Q => ∃ A B d, REnv K cl B H σ A ∧ m A = some d ∧ ∀ v B' H' fp, New B H B' H' → Rep K cl B' H' d v fp → Fresh H B' fp → Q v H'
def cT (m : Ev → Option Bool) : TT := fun σ H Q => ∃ A B b, REnv K cl B H σ A ∧ m A = some b ∧ ∀ B' H', New B H B' H' → Q b H'
def cI (m : Ev → Option (List D)) : TI := fun σ H R => ∃ A B ds, REnv K cl B H σ A ∧ m A = some ds ∧ ∀ J B' H', New B H B' H' → ItOk K cl J ds B' → R J H'
def cG (g : D → Ev → Option Ev) (vs : List Nat) : TG := fun v σ H Q => ∃ A B d A', REnv K cl B H σ A ∧ Rep K cl B H d v [] ∧ g d A = some A' ∧ ∀ σ', REnv K cl B H σ' A' → wipe σ' vs = wipe σ vs → Q σ' H
end
section
variable {X : Cx} {cl : Nat → Addr} {e tg iter : Expr} {m : Ev → Option D} {mt : Ev → Option Bool} {mi : Ev → Option (List D)} {g : D → Ev → Option Ev} {vs : List Nat} {pos : Pos}
theorem EvV.c (h : EvV X cl e m) : PE X e (cV X.K cl m) := by
  obtain ⟨t, p, r⟩ := h
  exact ⟨fun pins s σ H Q I ⟨A, B, d, R, hd, q⟩ => p.run pins s σ H Q I (r σ A B H R d hd Q q)⟩
theorem EvD.c (h : EvD X cl e m) : PE X e (cD X.K cl m) := by
  obtain ⟨t, p, r⟩ := h
  exact ⟨fun pins s σ H Q I ⟨A, B, d, R, hd, q⟩ => p.run pins s σ H Q I (r σ A B H R d hd Q q)⟩
theorem EvT.c (h : EvT X cl e mt) : PT X e (cT X.K cl mt) := by
  obtain ⟨t, p, r⟩ := h
  exact ⟨fun pins s σ H Q I ⟨A, B, d, R, hd, q⟩ => p.run pins s σ H Q I (r σ A B H R d hd Q q)⟩
theorem VI_.c (h : VI_ X cl tg iter mi) : PI X tg iter (cI X.K cl mi) := by
  obtain ⟨w, p, r⟩ := h
  exact ⟨fun pins s σ H R I ⟨A, B, d, R0, hd, q⟩ => p.run pins s σ H R I (r σ A B H R0 d hd R q)⟩
/-- tests of a comprehension -/
def EvTs (X : Cx) (cl : Nat → Addr) (ifs : List Expr) (mt : Ev → Option Bool) : Prop := PTs X ifs (cT X.K cl mt)
def mYes : Ev → Option Bool := fun _ => some true
theorem ets_nil : EvTs X cl [] mYes := ⟨fun pins s σ H Q I ⟨A, B, b, R, hb, q⟩ => by
  cases hb
  exact pts_nil.run pins s σ H Q I (q B H (New.refl R.sub))⟩
theorem ets_one {c : Expr} (h : EvT X cl c mt) : EvTs X cl [c] mt := pts_one h.c
/-- a target of a comprehension -/
def EvG (X : Cx) (cl : Nat → Addr) (tg : Expr) (g : D → Ev → Option Ev) (vs : List Nat) : Prop := PG X tg (cG X.K cl g vs)
theorem wipe_set {σ : St} {i : Nat} {v : Option V} : ∀ {vs : List Nat}, i ∈ vs → wipe (σ.set i v) vs = wipe σ vs := by
  intro vs hi
  apply List.ext_getElem?
  intro j
  by_cases hj : j ∈ vs
  · have h1 : ∀ (τ : St) (x : V), (wipe τ vs)[j]? ≠ some (some x) := fun τ x e => (wipe_some e).2 hj
    have h2 : ∀ τ : St, j < τ.length → (wipe τ vs)[j]? = some none := fun τ hl => by
      cases q : (wipe τ vs)[j]? with
      | none =>
        rw [List.getElem?_eq_none_iff, wipe_length] at q
        omega
      | some o => cases o with
        | none => rfl
        | some x => exact absurd q (h1 τ x)
    by_cases hl : j < σ.length
    · rw [h2 _ (by simpa using hl), h2 _ hl]
    · rw [List.getElem?_eq_none (by rw [wipe_length]; simpa using hl), List.getElem?_eq_none (by rw [wipe_length]; omega)]
  · rw [wipe_out hj, wipe_out hj, List.getElem?_set_ne (fun e => hj (by rw [← e]; exact hi))]
theorem eg_name {i : Nat} {x : Str} (hN : X.N.Nodup) (hi : X.N[i]? = some x) (hx : Loc X.env.scope x) (hvs : i ∈ vs) (hf : X.fn x = true ∨ X.env.scope.names.lookup x = some .local := by first | exact .inl rfl | exact .inr rfl | assumption) : EvG X cl (.Name x pos) (tgN i) vs := by
  have p := pg_name (pos := pos) hN hi hx hf
  refine ⟨fun pins s σ H v u Q I rv ⟨A, B, d, A', R, rp, hg, q⟩ => p.run pins s σ H v u Q I rv (q _ ?_ (wipe_set hvs))⟩
  unfold tgN at hg
  split at hg
  · rename_i hl
    cases hg
    refine ⟨R.sub, fun j d' e => ?_⟩
    by_cases hj : j = i
    · subst hj
      rw [List.getElem?_set_self hl] at e; cases e
      have hlt : j < σ.length := by rw [I.len]; exact (List.getElem?_eq_some_iff.mp hi).1
      exact ⟨v, [], List.getElem?_set_self hlt, rp⟩
    · rw [List.getElem?_set_ne (Ne.symm hj)] at e ⊢
      exact R.at_ j d' e
  · cases hg
def wipeA (A : Ev) (vs : List Nat) : Ev := vs.foldl (fun A i => A.set i none) A
theorem REnv.wipe {K : PySem.W.Frag} {B H : Hp} {σ : St} : ∀ {vs : List Nat} {A : Ev}, REnv K cl B H σ A → REnv K cl B H (wipe σ vs) (wipeA A vs) := by
  intro vs A R
  have hA : ∀ (vs : List Nat) (A : Ev) (j : Nat) (d : D), (wipeA A vs)[j]? = some (some d) → A[j]? = some (some d) ∧ j ∉ vs := by
    intro vs
    induction vs with
    | nil => intro A j d h; exact ⟨h, List.not_mem_nil⟩
    | cons i vs ih =>
      intro A j d h
      obtain ⟨h1, h2⟩ := ih (A.set i none) j d h
      by_cases hj : j = i
      · subst hj
        by_cases hl : j < A.length
        · rw [List.getElem?_set_self hl] at h1; cases h1
        · rw [List.getElem?_eq_none (by simpa using hl)] at h1; cases h1
      · rw [List.getElem?_set_ne (Ne.symm hj)] at h1
        exact ⟨h1, fun z => (List.mem_cons.mp z).elim hj h2⟩
  refine ⟨R.sub, fun j d e => ?_⟩
  obtain ⟨h1, h2⟩ := hA vs A j d e
  obtain ⟨v, fp, h3, h4⟩ := R.at_ j d h1
  exact ⟨v, fp, by rw [wipe_out h2]; exact h3, h4⟩
/-- one item of a comprehension: kept or not -/
def lcItem (g : D → Ev → Option Ev) (mt : Ev → Option Bool) (me : Ev → Option D) (A : Ev) (d : D) : Option (Option D) := (g d A).bind fun A' => (mt A').bind fun b => if b = true then (me A').map some else some none
def lcRun (f : D → Option (Option D)) : List D → Option (List D)
  | [] => some []
  | d :: ds => (f d).bind fun o => (lcRun f ds).map fun r => o.toList ++ r
def mLc (mi : Ev → Option (List D)) (g : D → Ev → Option Ev) (mt : Ev → Option Bool) (me : Ev → Option D) (vs : List Nat) : Ev → Option D := fun A => (mi A).bind fun ds => if ds.length ≤ 100000 then (lcRun (lcItem g mt me (wipeA A vs)) ds).map fun xs => .lst true xs else none
theorem lcRun_app {f : D → Option (Option D)} : ∀ {ds es : List D} {r : List D}, lcRun f (ds ++ es) = some r ↔ ∃ r1 r2, lcRun f ds = some r1 ∧ lcRun f es = some r2 ∧ r = r1 ++ r2
  | [], es, r => by simp [lcRun]
  | d :: ds, es, r => by
    simp only [List.cons_append, lcRun, Option.bind_eq_some_iff, Option.map_eq_some_iff]
    constructor
    · rintro ⟨o, ho, r', hr', rfl⟩
      obtain ⟨r1, r2, h1, h2, rfl⟩ := lcRun_app.mp hr'
      exact ⟨_, r2, ⟨o, ho, r1, h1, rfl⟩, h2, by simp⟩
    · rintro ⟨r1, r2, ⟨o, ho, r', hr', rfl⟩, h2, rfl⟩
      exact ⟨o, ho, r' ++ r2, lcRun_app.mpr ⟨r', r2, hr', h2, rfl⟩, by simp⟩
theorem lcRun_len {f : D → Option (Option D)} : ∀ {ds : List D} {r : List D}, lcRun f ds = some r → r.length ≤ ds.length
  | [], r, h => by cases h; exact Nat.le_refl _
  | d :: ds, r, h => by
    simp only [lcRun, Option.bind_eq_some_iff, Option.map_eq_some_iff] at h
    obtain ⟨o, ho, r', hr', rfl⟩ := h
    have := lcRun_len hr'
    cases o <;> simp <;> omega
/-- the reading of a comprehension is met -/
theorem lc_met {K : PySem.W.Frag} {me : Ev → Option D} {vs : List Nat} {σ : St} {A : Ev} {B H : Hp} (R : REnv K cl B H σ A) {d : D} (hd : mLc mi g mt me vs A = some d) (Q : VK) (q : ∀ v B' H' fp, New B H B' H' → Rep K cl B' H' d v fp → Fresh H B' fp → Q v H') :
    tLc (cI K cl mi) (cG K cl g vs) (cT K cl mt) (cD K cl me) vs σ H Q := by
  unfold mLc at hd
  simp only [Option.bind_eq_some_iff] at hd
  obtain ⟨ds, hds, hd⟩ := hd
  split at hd
  · rename_i hlen
    simp only [Option.map_eq_some_iff] at hd
    obtain ⟨xs, hrun, rfl⟩ := hd
    refine ⟨A, B, ds, R, hds, fun J B1 H1 n1 it => ?_⟩
    intro Da hDa
    -- what stands ahead of the i-th turn
    refine ⟨fun i m Hc => m = ds.length - i ∧ i ≤ ds.length ∧ ∃ (Bc : Hp) (acc : List V) (ys : List D) (fp : List Addr), New B1 H1 Bc Hc ∧ Hc Da = some (.lst acc) ∧ Bc Da = none ∧ RepL K cl Bc Hc ys acc fp ∧ Fresh H1 Bc (Da :: fp) ∧ lcRun (lcItem g mt me (wipeA A vs)) (ds.take i) = some ys,
      ⟨ds.length, by simp, Nat.zero_le _, B1, [], [], [], New.own n1.sub hDa, upd_same, n1.sub.none_of hDa, repL_nil, fresh_one n1.sub hDa, by simp [lcRun]⟩, ?_⟩
    rintro i m Hc ⟨rfl, hi2, Bc, acc, ys, fp, nc, hD, hBD, rep, fr, run⟩
    by_cases hlt : i < ds.length
    · have hdi : ds[i]? = some ds[i] := by simp [hlt]
      obtain ⟨go, yl⟩ := it.go Bc Hc nc.le.le nc.sub i _ hdi
      -- what the rest gives
      have hsplit : ds = ds.take i ++ ds[i] :: ds.drop (i + 1) := by
        rw [← List.drop_eq_getElem_cons hlt, List.take_append_drop]
      have hr2 := hrun
      rw [hsplit] at hr2
      obtain ⟨r1, r2, g1, g2, g3⟩ := lcRun_app.mp hr2
      simp only [lcRun, Option.bind_eq_some_iff, Option.map_eq_some_iff] at g2
      obtain ⟨o, ho, r3, hr3, g4⟩ := g2
      have hstep : lcRun (lcItem g mt me (wipeA A vs)) (ds.take (i + 1)) = some (ys ++ o.toList) := by
        rw [List.take_succ, hdi]
        exact lcRun_app.mpr ⟨ys, o.toList, run, by simp [lcRun, ho], rfl⟩
      have hyl : ys.length ≤ i := by
        have := lcRun_len run
        simp at this; omega
      refine .inr ⟨go, fun H' => ∃ (B2 : Hp) (acc2 : List V) (fp2 : List Addr), New B1 H1 B2 H' ∧ H' Da = some (.lst acc2) ∧ B2 Da = none ∧ RepL K cl B2 H' (ys ++ o.toList) acc2 fp2 ∧ Fresh H1 B2 (Da :: fp2), ?_, ?_⟩
      · rintro H' ⟨B2, acc2, fp2, k1, k2, k3, k4, k5⟩
        exact ⟨ds.length - (i + 1), by omega, rfl, hlt, B2, acc2, _, fp2, k1, k2, k3, k4, k5, hstep⟩
      · intro x H2 hy
        obtain ⟨B2, n2, rx⟩ := yl x H2 hy
        unfold lcItem at ho
        simp only [Option.bind_eq_some_iff] at ho
        obtain ⟨A', hA', b, hb, ho⟩ := ho
        have R2 : REnv K cl B2 H2 (wipe σ vs) (wipeA A vs) := (R.news (n1.trans (nc.trans n2))).wipe
        have nowD : ∀ {B3 H3 : Hp}, New Bc Hc B3 H3 → H3 Da = some (.lst acc) ∧ B3 Da = none := fun {B3 H3} n => ⟨n.ex _ _ hD, by
          cases q3 : B3 Da with
          | none => rfl
          | some u =>
            rcases n.nb Da (by rw [q3]; exact fun e => nomatch e) with z | z
            · exact absurd hBD z
            · exact (fot_own z hD rfl).elim⟩
        have frD : ∀ {B3 H3 : Hp}, New Bc Hc B3 H3 → Fresh H1 B3 (Da :: fp) := fun {B3 H3} n => fr.news n fun a z => by
          rcases List.mem_cons.mp z with rfl | z
          · exact ⟨_, hD, rfl⟩
          · exact rep.stand' a z
        refine ⟨_, B2, ds[i], A', R2, rx, hA', fun σ2 Rt hw => ⟨hw.trans (by
          apply List.ext_getElem?
          intro j
          by_cases hj : j ∈ vs
          · have h1 : ∀ (τ : St) (x : V), (wipe τ vs)[j]? ≠ some (some x) := fun τ x e => (wipe_some e).2 hj
            have h2 : ∀ τ : St, j < τ.length → (wipe τ vs)[j]? = some none := fun τ hl => by
              cases q : (wipe τ vs)[j]? with
              | none => rw [List.getElem?_eq_none_iff, wipe_length] at q; omega
              | some o => cases o with
                | none => rfl
                | some x => exact absurd q (h1 τ x)
            by_cases hl : j < σ.length
            · rw [h2 _ (by rw [wipe_length]; exact hl), h2 _ hl]
            · rw [List.getElem?_eq_none (by rw [wipe_length, wipe_length]; omega), List.getElem?_eq_none (by rw [wipe_length]; omega)]
          · rw [wipe_out hj]), A', B2, b, Rt, hb, fun B3 H3 n3 => ?_⟩⟩
        cases b with
        | false =>
          rw [if_neg Bool.false_ne_true] at ho ⊢
          cases ho
          have n23 := n2.trans n3
          exact ⟨B3, acc, fp, nc.trans n23, (nowD n23).1, (nowD n23).2, by simpa using rep.news n23, frD n23⟩
        | true =>
          rw [if_pos rfl] at ho ⊢
          simp only [Option.map_eq_some_iff] at ho
          obtain ⟨dy, hdy, rfl⟩ := ho
          refine ⟨A', B3, dy, Rt.news n3, hdy, fun y B4 H4 fy n4 ry fry => ?_⟩
          have n24 := n2.trans (n3.trans n4)
          refine ⟨acc, (nowD n24).1, by have := rep.length; have := ltLine (n := acc.length) (by omega); exact this, B4, acc ++ [y], fp ++ fy, ?_, upd_same, (nowD n24).2, ?_, ?_⟩
          · have nn := nc.trans n24
            exact ⟨fun a o e => by rw [upd_ne (fun z => by rw [z, hDa] at e; cases e)]; exact nn.ex a o e, nn.le, nn.sub.upd_out (nowD n24).2, nn.nb⟩
          · have hfy : Da ∉ fy := fun z => by
              have h1 := fry.nh Da z
              rw [n3.ex _ _ (n2.ex _ _ hD)] at h1; cases h1
            have hfp : Da ∉ fp := (List.nodup_cons.mp fr.nd).1
            have a1 : RepL K cl B4 (upd H4 Da (.lst (acc ++ [y]))) ys acc fp := (rep.news n24).mono (BLe.refl _) fun a z => upd_ne fun e => hfp (e ▸ z)
            have a2 : Rep K cl B4 (upd H4 Da (.lst (acc ++ [y]))) dy y fy := ry.mono (BLe.refl _) fun a z => upd_ne fun e => hfy (e ▸ z)
            have := RepL.append a1 (repL_cons a2 repL_nil)
            simpa using this
          · have f1 := frD n24
            have hst : ∀ a ∈ fp, ∃ o, H3 a = some o := fun a z => by
              obtain ⟨o, e, _⟩ := rep.stand' a z
              exact ⟨o, n3.ex _ _ (n2.ex _ _ e)⟩
            refine ⟨?_, fun a z => ?_, fun a z => ?_⟩
            · rw [List.nodup_cons] at *
              refine ⟨fun z => ?_, List.nodup_append.mpr ⟨(List.nodup_cons.mp f1.nd).2, fry.nd, fun a ha b hb e => ?_⟩⟩
              · rcases List.mem_append.mp z with z | z
                · exact (List.nodup_cons.mp f1.nd).1 z
                · have h1 := fry.nh Da z
                  rw [n3.ex _ _ (n2.ex _ _ hD)] at h1; cases h1
              · subst e
                obtain ⟨o, e⟩ := hst a ha
                rw [fry.nh a hb] at e; cases e
            · rcases List.mem_cons.mp z with rfl | z
              · exact hDa
              · rcases List.mem_append.mp z with z | z
                · exact f1.nh a (List.mem_cons_of_mem _ z)
                · exact none_back (nc.trans (n2.trans n3)).ex (fry.nh a z)
            · rcases List.mem_cons.mp z with rfl | z
              · exact (nowD n24).2
              · rcases List.mem_append.mp z with z | z
                · exact f1.nb a (List.mem_cons_of_mem _ z)
                · exact fry.nb a z
    · have e : i = ds.length := by omega
      subst e
      rw [List.take_length, hrun] at run
      cases run
      refine .inl ⟨it.stop Bc Hc nc.le.le nc.sub _ (Nat.le_refl _), ?_⟩
      refine q _ Bc Hc (Da :: fp) (n1.trans nc) ?_ (fresh_trans n1 fr)
      simp only [Rep]
      exact ⟨Da, acc, fp, rfl, hD, rep, rfl⟩
  · cases hd
/-- [elt for tg in iter if ..] -/
theorem ev_lc {elt : Expr} {ifs : List Expr} {scope : Scope} {own : List (Str × Nat)} {me : Ev → Option D} (hc : X.calm = true) (hN : X.N.Nodup) (hi : VI_ X cl tg iter mi) (ok : BlkOk X.N X.env.scope scope own)
    (hg : ∀ (s : Shared) (H : Hp) (C : Addr) (cs : List (Str × Addr)) (fp : List Addr), EvG (X.blk s H scope (compEnvC scope cs C X.env) fp) cl tg g (own.map (·.2)))
    (ht : ∀ (s : Shared) (H : Hp) (C : Addr) (cs : List (Str × Addr)) (fp : List Addr), EvTs (X.blk s H scope (compEnvC scope cs C X.env) fp) cl ifs mt)
    (he : ∀ (s : Shared) (H : Hp) (C : Addr) (cs : List (Str × Addr)) (fp : List Addr), EvD (X.blk s H scope (compEnvC scope cs C X.env) fp) cl elt me)
    (hs : ∀ x, foldedSetIterable iter X.env x = pure x := by intro _; rfl) : EvD X cl (.ListComp elt [{ target := tg, iter := iter, ifs := ifs, is_async := 0 }] scope pos) (mLc mi g mt me (own.map (·.2))) :=
  ⟨_, pe_lc (own := own) (g := cG X.K cl g (own.map fun x : Str × Nat => x.2)) (tt := cT X.K cl mt) (te := cD X.K cl me) hc hN hi.c ok (fun s H C cs fp => hg s H C cs fp) (fun s H C cs fp => ht s H C cs fp) (fun s H C cs fp => (he s H C cs fp).c) hs, fun σ A B H R d hd Q q => lc_met R hd Q q⟩
/-- y = [elt for tg in iter if ..] -/
theorem vs_asgLc {mu : List Nat} {i : Nat} {y : Str} {py spos : Pos} {elt : Expr} {ifs : List Expr} {scope : Scope} {own : List (Str × Nat)} {me : Ev → Option D} (hc : X.calm = true) (hN : X.N.Nodup) (hy : X.N[i]? = some y) (hyl : X.env.scope.names.lookup y = some .local)
    (hsw : swapsWith (.ListComp elt [{ target := tg, iter := iter, ifs := ifs, is_async := 0 }] scope pos) (some (.Name y py)) spos.line X.env = pure true) (hmu : i ∉ mu) (hi : VI_ X cl tg iter mi) (ok : BlkOk X.N X.env.scope scope own)
    (hg : ∀ (s : Shared) (H : Hp) (C : Addr) (cs : List (Str × Addr)) (fp : List Addr), EvG (X.blk s H scope (compEnvC scope cs C X.env) fp) cl tg g (own.map (·.2)))
    (ht : ∀ (s : Shared) (H : Hp) (C : Addr) (cs : List (Str × Addr)) (fp : List Addr), EvTs (X.blk s H scope (compEnvC scope cs C X.env) fp) cl ifs mt)
    (he : ∀ (s : Shared) (H : Hp) (C : Addr) (cs : List (Str × Addr)) (fp : List Addr), EvD (X.blk s H scope (compEnvC scope cs C X.env) fp) cl elt me)
    (hs : ∀ x, foldedSetIterable iter X.env x = pure x := by intro _; rfl) : VS X cl mu (.Assign [.Name y py] (.ListComp elt [{ target := tg, iter := iter, ifs := ifs, is_async := 0 }] scope pos) spos) (sAsg i (mLc mi g mt me (own.map (·.2)))) := by
  refine ⟨_, ps_setLc (own := own) (g := cG X.K cl g (own.map fun x : Str × Nat => x.2)) (tt := cT X.K cl mt) (te := cD X.K cl me) hc hN hy hyl hsw hi.c ok (fun s H C cs fp => hg s H C cs fp) (fun s H C cs fp => ht s H C cs fp) (fun s H C cs fp => (he s H C cs fp).c) hs, fun G σ A B H F hk g0 out eo Dn okk => ?_⟩
  unfold sAsg at eo
  simp only [Option.bind_eq_some_iff] at eo
  obtain ⟨d, h1, h2⟩ := eo
  split at h2
  · rename_i hl
    cases h2
    exact lc_met g0.renv h1 _ fun v B' H' fp n rp f => okk _ B' H' _ ((g0.news n).set hl (fun p hp e => hmu (e ▸ hk p hp)) rp (g0.ownF f))
  · cases h2
end
/-- the same, its item by name -/
def mLcN (mi : Ev → Option (List D)) (c : Ev → D → Option (Option D)) (vs : List Nat) : Ev → Option D := fun A => (mi A).bind fun ds => if ds.length ≤ 100000 then (lcRun (c (wipeA A vs)) ds).map fun xs => .lst true xs else none
theorem mLcN_eq {mi : Ev → Option (List D)} {g : D → Ev → Option Ev} {mt : Ev → Option Bool} {me : Ev → Option D} {vs : List Nat} : mLcN mi (lcItem g mt me) vs = mLc mi g mt me vs := rfl
end VI
set_option Elab.async false
set_option linter.all false
set_option maxRecDepth 100000
set_option autoImplicit false
namespace VI
open PySem L2
section
variable {X : Cx} {cl : Nat → Addr} {e o f : Expr} {mo me : Ev → Option D} {apos cpos : Pos}
/-- sorted(whole numbers) -/
def sortI (ns : List Int) : List Int := ns.mergeSort fun a b => decide (a ≤ b)
theorem sortI_perm (ns : List Int) : (sortI ns).Perm ns := List.mergeSort_perm _ _
theorem sortI_sorted (ns : List Int) : (sortI ns).Pairwise (· ≤ ·) :=
  (List.pairwise_mergeSort (fun a b c h1 h2 => by simp at *; omega) (fun a b => by simp; omega) ns).imp (fun h => by simpa using h)
theorem sortI_uniq {ns ms : List Int} (h : ms.Perm ns) (s : ms.Pairwise (· ≤ ·)) : ms = sortI ns :=
  List.Perm.eq_of_pairwise (fun a b _ _ h1 h2 => by omega) s (sortI_sorted ns) (h.trans (sortI_perm ns).symm)
def sortedD : List D → Option D
  | [.lst _ xs] => (intsD xs).map fun ns => .lst true ((sortI ns).map D.int)
  | _ => none
theorem repL_ints {K : PySem.W.Frag} {B H : Hp} : ∀ {ns : List Int}, RepL K cl B H (ns.map D.int) (ns.map V.int) []
  | [] => repL_nil
  | n :: ns => repL_cons (f := []) (g := []) rep_int repL_ints
theorem sortedD_ok : CallD X cl (rSortedI X.K) sortedD := by
  intro B H ds d vs fp s r hg Q q
  unfold sortedD at hg
  split at hg
  · rename_i m xs
    simp only [Option.map_eq_some_iff] at hg
    obtain ⟨ns, hn, rfl⟩ := hg
    obtain ⟨v, e0, r1⟩ := repL_one r
    obtain ⟨a, us, fq, e1, q1, q2, _⟩ := r1.lst_view s
    subst e0 e1
    have := intsD_v hn q2
    subst this
    refine ⟨a, ns, rfl, .of q1, fun ns' p hp hs hnone => ?_⟩
    have := sortI_uniq hp hs
    subst this
    exact new_list_q s repL_ints q p hnone
  · cases hg
/-- tuple(a list or a tuple) -/
def tupleD : List D → Option D
  | [.lst _ xs] => if D.plainL xs = true then some (.tup xs) else none
  | [.tup xs] => if D.plainL xs = true then some (.tup xs) else none
  | _ => none
theorem tupleD_ok : CallD X cl (fun xs H Q => ∃ p ys, xs = [V.ref p] ∧ ((SqL X.K H p ys ∧ ∀ l : Addr, H l = none → Q (V.ref l) (upd H l (.tup ys))) ∨ SqT X.K H p ys ∧ Q (V.ref p) H)) tupleD := by
  intro B H ds d vs fp s r hg Q q
  unfold tupleD at hg
  split at hg
  · rename_i m xs
    split at hg
    · rename_i hp
      cases hg
      obtain ⟨v, e0, r1⟩ := repL_one r
      obtain ⟨a, us, fq, e1, q1, q2, _⟩ := r1.lst_view s
      subst e0 e1
      have z := RepL.plain hp q2
      subst z
      refine ⟨a, us, rfl, .inl ⟨.of q1, fun l hl => ?_⟩⟩
      have n := New.told (o := .tup us) s hl
      refine q _ _ _ [] n ?_ Fresh.nil
      simp only [Rep]
      exact ⟨l, us, rfl, upd_same, q2.news n⟩
    · cases hg
  · rename_i xs
    split at hg
    · rename_i hp
      cases hg
      obtain ⟨v, e0, r1⟩ := repL_one r
      have r1' := r1
      obtain ⟨a, us, e1, q1, q2⟩ := r1.tup_view s
      subst e0 e1
      have z := RepL.plain hp q2
      subst z
      exact ⟨a, us, rfl, .inr ⟨.of q1, q _ B H [] (New.refl s) r1' Fresh.nil⟩⟩
    · cases hg
  · cases hg
end
end VI
set_option Elab.async false
set_option linter.all false
set_option maxRecDepth 100000
set_option autoImplicit false
/-! VX: further constructs: -x, dict(x), list.index, comprehensions of dicts. -/
namespace VI
open PySem L2
section
variable {X : Cx} {cl : Nat → Addr} {e o tg iter : Expr} {m mo : Ev → Option D} {mt : Ev → Option Bool} {mi : Ev → Option (List D)} {g : D → Ev → Option Ev} {vs : List Nat} {pos apos cpos : Pos}
def negD : D → Option D
  | .int i => some (.int (-i))
  | _ => none
def mNeg (m : Ev → Option D) : Ev → Option D := fun A => (m A).bind negD
theorem ev_neg (h : EvV X cl e m) : EvD X cl (.UnaryOp .USub e pos) (mNeg m) := by
  obtain ⟨t, p, r⟩ := h
  refine ⟨_, pe_un un_neg p, fun σ A B H R d hd Q q => ?_⟩
  simp only [mNeg, Option.bind_eq_some_iff] at hd
  obtain ⟨x, hx, hd⟩ := hd
  refine r σ A B H R x hx _ fun v B1 H1 f1 n1 r1 => ?_
  cases x <;> simp only [negD] at hd <;> try (cases hd; done)
  cases hd
  rw [rep_int_iff] at r1
  exact ⟨_, r1.1, q _ B1 H1 [] n1 rep_int Fresh.nil⟩
theorem idx_none_of {κ : Type} [DecidableEq κ] {k : κ} {ks : List κ} (h : k ∉ ks) : ks.idxOf? k = none := by rw [List.idxOf?_eq_none_iff]; exact h
/-- dict(x) -/
def dictD : List D → Option D
  | [.dct _ ks xs] => if D.plainL xs = true then some (.dct true ks xs) else none
  | _ => none
theorem dictD_ok : CallD X cl (fun xs H Q => ∃ (a : Addr) (kvs : List (Key × V)), xs = [.ref a] ∧ Rd H a (.dK kvs) ∧ ∀ p, H p = none → Q (.ref p) (upd H p (.dK kvs))) dictD := by
  intro B H ds d vs fp s r hg Q q
  unfold dictD at hg
  split at hg
  · rename_i b ks xs
    split at hg
    · rename_i hp
      cases hg
      obtain ⟨v, rfl, r1⟩ := repL_one r
      obtain ⟨a, us, fq, e1, h1, l1, q1⟩ := r1.dct_view s
      have hfq := RepL.plain hp q1
      subst hfq
      refine ⟨a, _, by rw [e1], h1, fun p hp' => ?_⟩
      have nn := New.own (o := .dK (ks.zip us)) s hp'
      refine q _ B _ [p] nn ?_ (fresh_one s hp')
      simp only [Rep]
      exact ⟨p, us, [], rfl, upd_same, l1, q1.news nn, rfl⟩
    · cases hg
  · cases hg
/-- list.index of flat items -/
def indexD (x y : D) : Option D := match x with
  | .lst _ xs => if flatD y = true ∧ xs.all flatD = true then (xs.findIdx? fun z => eqF z y).map fun (j : Nat) => D.int (j : Int) else none
  | _ => none
theorem ev_index (ho : EvV X cl o mo) (he : EvV X cl e m) (hb : attributeBase o "index" X.env (eval o X.env) = eval o X.env := by rfl)
    (hk : (((backTo cpos (starEach [e] X.env)).all (!·.1)) && ((backToKw cpos (keywordEach [] X.env)).all (·.1.isSome)) && decide (([e].length + ([] : List Keyword).length + if ([] : List Keyword).isEmpty = true then 0 else 1) < 30)) = true := by rfl)
    (hl : (apos.endLine == cpos.line) = true := by rfl) (hs : starEach [e] X.env = (false, eval e X.env) :: starEach [] X.env := by rfl) (hp : (backTo cpos (starEach [] X.env)).any (·.1) = false := by rfl) :
    EvD X cl (.Call (.Attribute o "index" apos) [e] [] cpos) (mOp indexD mo m) := by
  obtain ⟨t, pe, r⟩ := ho
  obtain ⟨t2, pe2, r2⟩ := he
  refine ⟨_, pe_bm PySem.F.plainAttrs_list PySem.F.slot_list_index PySem.F.type_list_index mt_index pe (pa_cons pe2 pa_nil hs) hb hk hl hs hp, fun σ A B H R d hd Q q => ?_⟩
  simp only [mOp, Option.bind_eq_some_iff] at hd
  obtain ⟨x, hx, y, hy, hd⟩ := hd
  unfold indexD at hd
  split at hd
  · rename_i b xs
    split at hd
    · rename_i hf
      simp only [Option.map_eq_some_iff] at hd
      obtain ⟨j, hj, rfl⟩ := hd
      refine r σ A B H R _ hx _ fun v B1 H1 f1 n1 r1 => ?_
      obtain ⟨a, us, fq, e1, h1, q1, _⟩ := r1.lst_view n1.sub
      subst e1
      refine ⟨tyList h1, ?_⟩
      refine r2 σ A B1 H1 (R.news n1) y hy _ fun yv B2 H2 fy n2 ry => ?_
      have h2 := n2.ex _ _ h1
      have q2 := q1.news n2
      obtain ⟨i1, i2⟩ := inF_v hf.1 ry hf.2 q2
      obtain ⟨hjl, hj1, hj2⟩ := List.findIdx?_eq_some_iff_getElem.mp hj
      have hjx : xs[j]? = some xs[j] := List.getElem?_eq_getElem hjl
      obtain ⟨z, fz, z1, z2, _⟩ := q2.get hjx
      have fxj : ∀ (i : Nat) (h : i < xs.length), flatD xs[i] = true := fun i h => List.all_eq_true.mp hf.2 _ (List.getElem_mem h)
      have hjv : eqV z yv = true := by rw [eqF_v (fxj j hjl) hf.1 z2 ry]; exact hj1
      refine ⟨a, us, yv, j, z, rfl, rfl, .of h2, flat_v hf.1 ry, i1, z1, hjv, fun m' z' hm hz' => ?_, q _ B2 H2 [] (n1.trans n2) rep_int Fresh.nil⟩
      have hml : m' < xs.length := by omega
      obtain ⟨w, fw, w1, w2, _⟩ := q2.get (List.getElem?_eq_getElem hml : xs[m']? = some xs[m'])
      rw [hz'] at w1
      cases w1
      rw [eqF_v (fxj m' hml) hf.1 w2 ry]
      have := hj2 m' hm
      simpa using this
    · cases hd
  · cases hd
/-! ### comprehensions of dicts -/
def dcItem (g : D → Ev → Option Ev) (mt : Ev → Option Bool) (mk me : Ev → Option D) (A : Ev) (d : D) : Option (Option (Key × D)) := (g d A).bind fun A' => (mt A').bind fun b => if b = true then (mk A').bind fun y => (keyD y).bind fun k => (me A').map fun z => some (k, z) else some none
def dcRun (f : D → Option (Option (Key × D))) : List D → Option (List (Key × D))
  | [] => some []
  | d :: ds => (f d).bind fun o => (dcRun f ds).map fun r => o.toList ++ r
def mDc (mi : Ev → Option (List D)) (g : D → Ev → Option Ev) (mt : Ev → Option Bool) (mk me : Ev → Option D) (vs : List Nat) : Ev → Option D := fun A => (mi A).bind fun ds => if ds.length ≤ 100000 then (dcRun (dcItem g mt mk me (wipeA A vs)) ds).bind fun ps => if (ps.map (·.1)).Nodup then some (.dct true (ps.map (·.1)) (ps.map (·.2))) else none else none
def mDcN (mi : Ev → Option (List D)) (c : Ev → D → Option (Option (Key × D))) (vs : List Nat) : Ev → Option D := fun A => (mi A).bind fun ds => if ds.length ≤ 100000 then (dcRun (c (wipeA A vs)) ds).bind fun ps => if (ps.map (·.1)).Nodup then some (.dct true (ps.map (·.1)) (ps.map (·.2))) else none else none
theorem dcRun_app {f : D → Option (Option (Key × D))} : ∀ {ds es : List D} {r : List (Key × D)}, dcRun f (ds ++ es) = some r ↔ ∃ r1 r2, dcRun f ds = some r1 ∧ dcRun f es = some r2 ∧ r = r1 ++ r2
  | [], es, r => by simp [dcRun]
  | d :: ds, es, r => by
    simp only [List.cons_append, dcRun, Option.bind_eq_some_iff, Option.map_eq_some_iff]
    constructor
    · rintro ⟨o, ho, r', hr', rfl⟩
      obtain ⟨r1, r2, h1, h2, rfl⟩ := dcRun_app.mp hr'
      exact ⟨_, r2, ⟨o, ho, r1, h1, rfl⟩, h2, by simp⟩
    · rintro ⟨r1, r2, ⟨o, ho, r', hr', rfl⟩, h2, rfl⟩
      exact ⟨o, ho, r' ++ r2, dcRun_app.mpr ⟨r', r2, hr', h2, rfl⟩, by simp⟩
theorem dcRun_len {f : D → Option (Option (Key × D))} : ∀ {ds : List D} {r : List (Key × D)}, dcRun f ds = some r → r.length ≤ ds.length
  | [], r, h => by cases h; exact Nat.le_refl _
  | d :: ds, r, h => by
    simp only [dcRun, Option.bind_eq_some_iff, Option.map_eq_some_iff] at h
    obtain ⟨o, ho, r', hr', rfl⟩ := h
    have := dcRun_len hr'
    cases o <;> simp <;> omega
/-- the reading of a dict's comprehension is met -/
theorem dc_met {K : PySem.W.Frag} {mk me : Ev → Option D} {vs : List Nat} {σ : St} {A : Ev} {B H : Hp} (R : REnv K cl B H σ A) {d : D} (hd : mDc mi g mt mk me vs A = some d) (Q : VK) (q : ∀ v B' H' fp, New B H B' H' → Rep K cl B' H' d v fp → Fresh H B' fp → Q v H') :
    tDc (cI K cl mi) (cG K cl g vs) (cT K cl mt) (cV K cl mk) (cD K cl me) vs σ H Q := by
  unfold mDc at hd
  simp only [Option.bind_eq_some_iff] at hd
  obtain ⟨ds, hds, hd⟩ := hd
  split at hd
  · rename_i hlen
    simp only [Option.bind_eq_some_iff] at hd
    obtain ⟨xs, hrun, hd⟩ := hd
    split at hd
    case isFalse => cases hd
    rename_i hnd
    cases hd
    refine ⟨A, B, ds, R, hds, fun J B1 H1 n1 it => ?_⟩
    intro Da hDa
    -- what stands ahead of the i-th turn
    refine ⟨fun i m Hc => m = ds.length - i ∧ i ≤ ds.length ∧ ∃ (Bc : Hp) (acc : List V) (ys : List (Key × D)) (fp : List Addr), New B1 H1 Bc Hc ∧ Hc Da = some (.dK ((ys.map (·.1)).zip acc)) ∧ Bc Da = none ∧ RepL K cl Bc Hc (ys.map (·.2)) acc fp ∧ Fresh H1 Bc (Da :: fp) ∧ dcRun (dcItem g mt mk me (wipeA A vs)) (ds.take i) = some ys,
      ⟨ds.length, by simp, Nat.zero_le _, B1, [], [], [], New.own n1.sub hDa, upd_same, n1.sub.none_of hDa, repL_nil, fresh_one n1.sub hDa, by simp [dcRun]⟩, ?_⟩
    rintro i m Hc ⟨rfl, hi2, Bc, acc, ys, fp, nc, hD, hBD, rep, fr, run⟩
    by_cases hlt : i < ds.length
    · have hdi : ds[i]? = some ds[i] := by simp [hlt]
      obtain ⟨go, yl⟩ := it.go Bc Hc nc.le.le nc.sub i _ hdi
      -- what the rest gives
      have hsplit : ds = ds.take i ++ ds[i] :: ds.drop (i + 1) := by
        rw [← List.drop_eq_getElem_cons hlt, List.take_append_drop]
      have hr2 := hrun
      rw [hsplit] at hr2
      obtain ⟨r1, r2, g1, g2, g3⟩ := dcRun_app.mp hr2
      simp only [dcRun, Option.bind_eq_some_iff, Option.map_eq_some_iff] at g2
      obtain ⟨o, ho, r3, hr3, g4⟩ := g2
      have hstep : dcRun (dcItem g mt mk me (wipeA A vs)) (ds.take (i + 1)) = some (ys ++ o.toList) := by
        rw [List.take_succ, hdi]
        exact dcRun_app.mpr ⟨ys, o.toList, run, by simp [dcRun, ho], rfl⟩
      have hyl : ys.length ≤ i := by
        have := dcRun_len run
        simp at this; omega
      refine .inr ⟨go, fun H' => ∃ (B2 : Hp) (acc2 : List V) (fp2 : List Addr), New B1 H1 B2 H' ∧ H' Da = some (.dK (((ys ++ o.toList).map (·.1)).zip acc2)) ∧ B2 Da = none ∧ RepL K cl B2 H' ((ys ++ o.toList).map (·.2)) acc2 fp2 ∧ Fresh H1 B2 (Da :: fp2), ?_, ?_⟩
      · rintro H' ⟨B2, acc2, fp2, k1, k2, k3, k4, k5⟩
        exact ⟨ds.length - (i + 1), by omega, rfl, hlt, B2, acc2, _, fp2, k1, k2, k3, k4, k5, hstep⟩
      · intro x H2 hy
        obtain ⟨B2, n2, rx⟩ := yl x H2 hy
        unfold dcItem at ho
        simp only [Option.bind_eq_some_iff] at ho
        obtain ⟨A', hA', b, hb, ho⟩ := ho
        have R2 : REnv K cl B2 H2 (wipe σ vs) (wipeA A vs) := (R.news (n1.trans (nc.trans n2))).wipe
        have nowD : ∀ {B3 H3 : Hp}, New Bc Hc B3 H3 → H3 Da = some (.dK ((ys.map (·.1)).zip acc)) ∧ B3 Da = none := fun {B3 H3} n => ⟨n.ex _ _ hD, by
          cases q3 : B3 Da with
          | none => rfl
          | some u =>
            rcases n.nb Da (by rw [q3]; exact fun e => nomatch e) with z | z
            · exact absurd hBD z
            · exact (fot_own z hD rfl).elim⟩
        have frD : ∀ {B3 H3 : Hp}, New Bc Hc B3 H3 → Fresh H1 B3 (Da :: fp) := fun {B3 H3} n => fr.news n fun a z => by
          rcases List.mem_cons.mp z with rfl | z
          · exact ⟨_, hD, rfl⟩
          · exact rep.stand' a z
        refine ⟨_, B2, ds[i], A', R2, rx, hA', fun σ2 Rt hw => ⟨hw.trans (by
          apply List.ext_getElem?
          intro j
          by_cases hj : j ∈ vs
          · have h1 : ∀ (τ : St) (x : V), (wipe τ vs)[j]? ≠ some (some x) := fun τ x e => (wipe_some e).2 hj
            have h2 : ∀ τ : St, j < τ.length → (wipe τ vs)[j]? = some none := fun τ hl => by
              cases q : (wipe τ vs)[j]? with
              | none => rw [List.getElem?_eq_none_iff, wipe_length] at q; omega
              | some o => cases o with
                | none => rfl
                | some x => exact absurd q (h1 τ x)
            by_cases hl : j < σ.length
            · rw [h2 _ (by rw [wipe_length]; exact hl), h2 _ hl]
            · rw [List.getElem?_eq_none (by rw [wipe_length, wipe_length]; omega), List.getElem?_eq_none (by rw [wipe_length]; omega)]
          · rw [wipe_out hj]), A', B2, b, Rt, hb, fun B3 H3 n3 => ?_⟩⟩
        cases b with
        | false =>
          rw [if_neg Bool.false_ne_true] at ho ⊢
          cases ho
          have n23 := n2.trans n3
          exact ⟨B3, acc, fp, nc.trans n23, by simpa using (nowD n23).1, (nowD n23).2, by simpa using rep.news n23, frD n23⟩
        | true =>
          rw [if_pos rfl] at ho ⊢
          simp only [Option.bind_eq_some_iff, Option.map_eq_some_iff] at ho
          obtain ⟨dk, hdk, kk, hkk, dy, hdy, rfl⟩ := ho
          refine ⟨A', B3, dk, Rt.news n3, hdk, fun yk Bk Hk fk nk rk => ?_⟩
          have hyk := keyD_v hkk rk
          refine ⟨A', Bk, dy, (Rt.news n3).news nk, hdy, fun y B4 H4 fy n4' ry fry' => ?_⟩
          have n4 := nk.trans n4'
          have fry : Fresh H3 B4 fy := ⟨fry'.nd, fun a z => none_back nk.ex (fry'.nh a z), fry'.nb⟩
          have n24 := n2.trans (n3.trans n4)
          have hnew : kk ∉ ys.map (·.1) := by
            have hp : ((ys ++ [(kk, dy)]).map (·.1)).Nodup := by
              refine hnd.sublist (List.Sublist.map _ ?_)
              rw [g3, ← g4]
              have : r1 = ys := by have := run.symm.trans g1; exact (Option.some.inj this).symm
              rw [this]
              exact List.Sublist.append_left (by simp) _
            rw [List.map_append, List.nodup_append] at hp
            exact fun z => hp.2.2 kk z kk (by simp) rfl
          have hlk : (ys.map (·.1)).length = acc.length := by have := rep.length; simpa using this
          have hput : putK ((ys.map (·.1)).zip acc) kk y = (((ys ++ [(kk, dy)]).map (·.1)).zip (acc ++ [y])) := by
            rw [putK_none hlk (idx_none_of hnew)]; simp
          refine ⟨_, kk, hyk, (nowD n24).1, by have := rep.length; have := ltLine (n := acc.length) (by simp at this; omega); rw [List.length_zip]; omega, B4, acc ++ [y], fp ++ fy, ?_, by rw [upd_same, hput]; rfl, (nowD n24).2, ?_, ?_⟩
          · have nn := nc.trans n24
            exact ⟨fun a o e => by rw [upd_ne (fun z => by rw [z, hDa] at e; cases e)]; exact nn.ex a o e, nn.le, nn.sub.upd_out (nowD n24).2, nn.nb⟩
          · have hfy : Da ∉ fy := fun z => by
              have h1 := fry.nh Da z
              rw [n3.ex _ _ (n2.ex _ _ hD)] at h1; cases h1
            have hfp : Da ∉ fp := (List.nodup_cons.mp fr.nd).1
            have a1 : RepL K cl B4 (upd H4 Da (.dK (putK ((ys.map (·.1)).zip acc) kk y))) (ys.map (·.2)) acc fp := (rep.news n24).mono (BLe.refl _) fun a z => upd_ne fun e => hfp (e ▸ z)
            have a2 : Rep K cl B4 (upd H4 Da (.dK (putK ((ys.map (·.1)).zip acc) kk y))) dy y fy := ry.mono (BLe.refl _) fun a z => upd_ne fun e => hfy (e ▸ z)
            have := RepL.append a1 (repL_cons a2 repL_nil)
            simpa using this
          · have f1 := frD n24
            have hst : ∀ a ∈ fp, ∃ o, H3 a = some o := fun a z => by
              obtain ⟨o, e, _⟩ := rep.stand' a z
              exact ⟨o, n3.ex _ _ (n2.ex _ _ e)⟩
            refine ⟨?_, fun a z => ?_, fun a z => ?_⟩
            · rw [List.nodup_cons] at *
              refine ⟨fun z => ?_, List.nodup_append.mpr ⟨(List.nodup_cons.mp f1.nd).2, fry.nd, fun a ha b hb e => ?_⟩⟩
              · rcases List.mem_append.mp z with z | z
                · exact (List.nodup_cons.mp f1.nd).1 z
                · have h1 := fry.nh Da z
                  rw [n3.ex _ _ (n2.ex _ _ hD)] at h1; cases h1
              · subst e
                obtain ⟨o, e⟩ := hst a ha
                rw [fry.nh a hb] at e; cases e
            · rcases List.mem_cons.mp z with rfl | z
              · exact hDa
              · rcases List.mem_append.mp z with z | z
                · exact f1.nh a (List.mem_cons_of_mem _ z)
                · exact none_back (nc.trans (n2.trans n3)).ex (fry.nh a z)
            · rcases List.mem_cons.mp z with rfl | z
              · exact (nowD n24).2
              · rcases List.mem_append.mp z with z | z
                · exact f1.nb a (List.mem_cons_of_mem _ z)
                · exact fry.nb a z
    · have e : i = ds.length := by omega
      subst e
      rw [List.take_length, hrun] at run
      cases run
      refine .inl ⟨it.stop Bc Hc nc.le.le nc.sub _ (Nat.le_refl _), ?_⟩
      refine q _ Bc Hc (Da :: fp) (n1.trans nc) ?_ (fresh_trans n1 fr)
      simp only [Rep]
      exact ⟨Da, acc, fp, rfl, hD, by simp, rep, rfl⟩
  · cases hd
theorem ev_dc {kx vx : Expr} {ifs : List Expr} {scope : Scope} {own : List (Str × Nat)} {mk me : Ev → Option D} (hc : X.calm = true) (hN : X.N.Nodup) (hi : VI_ X cl tg iter mi) (ok : BlkOk X.N X.env.scope scope own)
    (hg : ∀ (s : Shared) (H : Hp) (C : Addr) (cs : List (Str × Addr)) (fp : List Addr), EvG (X.blk s H scope (compEnvC scope cs C X.env) fp) cl tg g (own.map (·.2)))
    (ht : ∀ (s : Shared) (H : Hp) (C : Addr) (cs : List (Str × Addr)) (fp : List Addr), EvTs (X.blk s H scope (compEnvC scope cs C X.env) fp) cl ifs mt)
    (hk : ∀ (s : Shared) (H : Hp) (C : Addr) (cs : List (Str × Addr)) (fp : List Addr), EvV (X.blk s H scope (compEnvC scope cs C X.env) fp) cl kx mk)
    (he : ∀ (s : Shared) (H : Hp) (C : Addr) (cs : List (Str × Addr)) (fp : List Addr), EvD (X.blk s H scope (compEnvC scope cs C X.env) fp) cl vx me)
    (hs : ∀ x, foldedSetIterable iter X.env x = pure x := by intro _; rfl) : EvD X cl (.DictComp kx vx [{ target := tg, iter := iter, ifs := ifs, is_async := 0 }] scope pos) (mDc mi g mt mk me (own.map (·.2))) :=
  ⟨_, pe_dc (own := own) (g := cG X.K cl g (own.map fun x : Str × Nat => x.2)) (tt := cT X.K cl mt) (tk := cV X.K cl mk) (tv := cD X.K cl me) hc hN hi.c ok (fun s H C cs fp => hg s H C cs fp) (fun s H C cs fp => ht s H C cs fp) (fun s H C cs fp => (hk s H C cs fp).c) (fun s H C cs fp => (he s H C cs fp).c) hs, fun σ A B H R d hd Q q => dc_met R hd Q q⟩
theorem ps_setDc {i : Nat} {y : Str} {py : Pos} {kx vx tg iter : Expr} {ifs : List Expr} {scope : Scope} {own : List (Str × Nat)} {pos spos : Pos} {wi : TI} {g : TG} {tt : TT} {tk tv : TE} (hc : X.calm = true) (hN : X.N.Nodup) (hy : X.N[i]? = some y) (hyl : X.env.scope.names.lookup y = some .local)
    (hsw : swapsWith (.DictComp kx vx [⟨tg, iter, ifs, 0⟩] scope pos) (some (.Name y py)) spos.line X.env = pure true) (hi : PI X tg iter wi) (ok : BlkOk X.N X.env.scope scope own)
    (hg : ∀ (s : Shared) (H : Hp) (C : Addr) (cl : List (Str × Addr)) (fp : List Addr), PG (X.blk s H scope (compEnvC scope cl C X.env) fp) tg g) (ht : ∀ (s : Shared) (H : Hp) (C : Addr) (cl : List (Str × Addr)) (fp : List Addr), PTs (X.blk s H scope (compEnvC scope cl C X.env) fp) ifs tt)
    (hk : ∀ (s : Shared) (H : Hp) (C : Addr) (cl : List (Str × Addr)) (fp : List Addr), PE (X.blk s H scope (compEnvC scope cl C X.env) fp) kx tk)
    (he : ∀ (s : Shared) (H : Hp) (C : Addr) (cl : List (Str × Addr)) (fp : List Addr), PE (X.blk s H scope (compEnvC scope cl C X.env) fp) vx tv) (hs : ∀ x, foldedSetIterable iter X.env x = pure x := by intro _; rfl) :
    PS X (.Assign [.Name y py] (.DictComp kx vx [⟨tg, iter, ifs, 0⟩] scope pos) spos) (tAsg (tDc wi g tt tk tv (own.map (·.2))) (gName i)) := by
  refine ⟨fun pins s σ H D I h => ?_⟩
  rw [exec_Assign_Name_used _ _ _ _ hsw]
  refine wpAny_bind (wpAny_standAt (wpAny_bind ?_))
  show wpAny _ X.A (do let _ ← comprehension (.DictComp kx vx [⟨tg, iter, ifs, 0⟩] scope pos) scope X.env (firstIterPos [⟨tg, iter, ifs, 0⟩] pos) newDict false (eval iter X.env) (some (assign (.Name y py) X.env))) _ _ s
  have h : tDc wi g tt tk tv (own.map (·.2)) σ H (fun x H1 => gName i x σ H1 D.nx) := h
  refine wpAny_bind (thn (dc_core (Qf := fun _ s' => SP X pins D .next s') hc hN I hi ok hg ht hk he hs h fun L C s' m H' I' q hn f => ?_) fun _ s' hq => wpAny_pure (wpAny_pure hq))
  show wpAny _ _ (assign (.Name y py) X.env (.ref L)) _ _ _
  refine wpAny_assign_Name (store_ok2 (v := V.ref L) I' hN hy (.inl hyl) rfl (fun s2 I2 ⟨a, sb, ha⟩ => ?_) (.inr hyl))
  obtain ⟨f0, f1, f2, f3, f4, f5⟩ := f
  have haC : C ≠ a := by
    rcases ha with z | z
    · rw [z]; exact f1
    · exact fun e => f4 y a z e.symm
  refine ⟨m, hn.sameBut sb haC, fun h3 sb3 => ?_⟩
  exact ⟨_, H', I2.turned (t' := s2.toks) (fun b o hb e => (sb3.2 b hb).trans e) f0 f1 f3 f4 f5, q⟩
theorem sw_trueD {kx vx : Expr} {gs : List Comprehension} {scope : Scope} {pos py : Pos} {y : Str} {l : Nat} {env : Env} (hk : env.scope.kind = .function) (hy : env.scope.names.lookup y = some .local) (hl : (py.line == pos.line) = true)
    (ha : (scope.names.any fun (n, k) => n == y && (k == .local || k == .cell)) = false) : swapsWith (.DictComp kx vx gs scope pos) (some (.Name y py)) l env = pure true := by
  have ky : env.kindOf y = some .local := hy
  have hb : env.blockKind = .function := by unfold Env.blockKind; rw [hk]; rfl
  unfold swapsWith
  simp only [hb, ky, ha, Expr.pos, hl]
  rfl
/-- y = {k: v for tg in iter if ..} -/
theorem vs_asgDc {mu : List Nat} {i : Nat} {y : Str} {py spos : Pos} {kx vx : Expr} {ifs : List Expr} {scope : Scope} {own : List (Str × Nat)} {mk me : Ev → Option D} (hc : X.calm = true) (hN : X.N.Nodup) (hy : X.N[i]? = some y) (hyl : X.env.scope.names.lookup y = some .local)
    (hsw : swapsWith (.DictComp kx vx [{ target := tg, iter := iter, ifs := ifs, is_async := 0 }] scope pos) (some (.Name y py)) spos.line X.env = pure true) (hmu : i ∉ mu) (hi : VI_ X cl tg iter mi) (ok : BlkOk X.N X.env.scope scope own)
    (hg : ∀ (s : Shared) (H : Hp) (C : Addr) (cs : List (Str × Addr)) (fp : List Addr), EvG (X.blk s H scope (compEnvC scope cs C X.env) fp) cl tg g (own.map (·.2)))
    (ht : ∀ (s : Shared) (H : Hp) (C : Addr) (cs : List (Str × Addr)) (fp : List Addr), EvTs (X.blk s H scope (compEnvC scope cs C X.env) fp) cl ifs mt)
    (hk : ∀ (s : Shared) (H : Hp) (C : Addr) (cs : List (Str × Addr)) (fp : List Addr), EvV (X.blk s H scope (compEnvC scope cs C X.env) fp) cl kx mk)
    (he : ∀ (s : Shared) (H : Hp) (C : Addr) (cs : List (Str × Addr)) (fp : List Addr), EvD (X.blk s H scope (compEnvC scope cs C X.env) fp) cl vx me)
    (hs : ∀ x, foldedSetIterable iter X.env x = pure x := by intro _; rfl) : VS X cl mu (.Assign [.Name y py] (.DictComp kx vx [{ target := tg, iter := iter, ifs := ifs, is_async := 0 }] scope pos) spos) (sAsg i (mDc mi g mt mk me (own.map (·.2)))) := by
  refine ⟨_, ps_setDc (own := own) (g := cG X.K cl g (own.map fun x : Str × Nat => x.2)) (tt := cT X.K cl mt) (tk := cV X.K cl mk) (tv := cD X.K cl me) hc hN hy hyl hsw hi.c ok (fun s H C cs fp => hg s H C cs fp) (fun s H C cs fp => ht s H C cs fp) (fun s H C cs fp => (hk s H C cs fp).c) (fun s H C cs fp => (he s H C cs fp).c) hs, fun G σ A B H F hk0 g0 out eo Dn okk => ?_⟩
  unfold sAsg at eo
  simp only [Option.bind_eq_some_iff] at eo
  obtain ⟨d, h1, h2⟩ := eo
  split at h2
  · rename_i hl
    cases h2
    exact dc_met g0.renv h1 _ fun v B' H' fp n rp f => okk _ B' H' _ ((g0.news n).set hl (fun p hp e => hmu (e ▸ hk0 p hp)) rp (g0.ownF f))
  · cases h2
end
end VI
set_option Elab.async false
set_option linter.all false
set_option maxRecDepth 100000
set_option autoImplicit false
/-! VOwn: len, in, walks of objects of own classes. -/
namespace VI
open PySem PySem.Spec PyProof.Rows L2
section
variable {M : Model} {A : Around} {E : Value → Shared → Prop} {s : Shared} {K : PySem.W.Frag} {x C f : Addr} {ox : Obj} {od : Option Obj}
theorem own_contains {v : Value} {Q : Bool → Shared → Prop} (hK : K.In s.heap) (I : PySem.W.InstAt s.heap x ox C od) (hs : PySem.W.findIn K (.ref C) "__contains__" = some (some (.ref f))) (hf : PySem.W.isFn K (.ref f) = true)
    (h : wpAny M A (call (.ref f) [.ref x, v]) (fun r s' => wpAny M A (truthy r) Q E s') E s) : wpAny M A (contains (.ref x) v) Q E s := by
  have L := PySem.W.looks_findIn (M := M) hK hs
  unfold contains
  refine wpAny_holding ?_
  show wpAny M A (specialOf (.ref x) "__contains__" >>= _) Q E s
  refine wpAny_bind (wpAny_bind (I.type.here (L.here ?_)))
  show wpAny M A (callSpecialUnlessNone? (.ref x) "__contains__" [v] _ >>= _) Q E s
  unfold callSpecialUnlessNone?
  refine wpAny_bind (wpAny_bind (wpAny_bind (I.type.here (L.here ?_))))
  refine wpAny_holding (wpAny_bind ((PySem.W.bind_fn hK _ (beq_iff_eq.mp hf)).here ?_))
  show wpAny M A (call (.ref f) ([.ref x] ++ [v]) >>= fun v => pure (some v)) _ E s
  refine wpAny_bind (wpAny_mono h (fun r s' hr => wpAny_pure hr) fun _ _ z => z)
end
section
variable {X : Cx} {pins : List (Addr × Obj)} {σ : L2.St} {H : Hp} {s : Shared} {C f : Addr} {fd : FuncData} {ps : List Str} {sp : Sp} {k : Nat}
/-- the def of a special name is called, at a place within the running body -/
theorem run_at {A1 : Around} {Q : VK} {EE : Value → Shared → Prop} {us : List Value} {vs : List V} (hA : A1.frames = X.A.frames) (F : FnOk X.prog X.w X.K X.mg X.base CX0 k f fd ps sp) (hr : Room k A1) (hb : Binds X.K fd ps []) (I : Inv X pins σ H s) (r : Vals vs us) (h : sp vs H Q E0) :
    wpAny (model X.prog X.w) A1 (call (.ref f) us) (EP X pins σ Q) EE s := by
  have hl : us.length = ps.length := by rw [← r.length]; exact F.len _ _ _ _ h
  have e0 : Env0 X.prog X.w X.K X.mg X.base A1 X.stack s H := by
    have e := I.env0
    exact ⟨by rw [hA]; exact e.frames, e.mod, e.bs, e.bsz, e.funs, e.frf, e.hok, e.bare⟩
  have hb' : BindsTo s fd ⟨us, []⟩ (ps.zip us) := by simpa using hb s us I.kIn (by simpa using hl)
  refine wpAny_call (codeAny_mono (F.run A1 X.stack s H ⟨us, []⟩ us vs Q E0 hr e0 hb' r h) fun r s' hq => ?_)
  rcases r with e | fl
  · exact False.elim hq
  · cases fl
    case ret u => exact I.after hq
    all_goals exact False.elim hq
def rInOwn (C : Addr) (sp : Sp) (neg : Bool) : R2 := fun x y H Q => ∃ a dx fs, y = .ref a ∧ H a = some (.ins C dx fs) ∧ sp [.ref a, x] H (fun v H' => ∃ b, v = .bl b ∧ Q (.bl (if neg then !b else b)) H') E0
theorem op_inOwn (hM : Meth X.K C "__contains__" f) (F : FnOk X.prog X.w X.K X.mg X.base CX0 k f fd ps sp) (hr : Room k X.A) (hb : Binds X.K fd ps []) : OpR X (compareOp .In) (rInOwn C sp false) := by
  intro pins s σ H x y v u Q I rx ry h
  obtain ⟨a, dx, fs, rfl, ha, q⟩ := h
  obtain rfl : u = Value.ref a := ry
  obtain ⟨mA, J, _⟩ := ins_get I.hok ha
  obtain ⟨od, J, _⟩ := J.look
  show wpAny _ X.A (contains (.ref a) v >>= fun b => pure (Value.bool b)) _ _ _
  refine wpAny_bind (own_contains I.kIn J hM.at_ hM.fn (wpAny_mono (run_at (vs := [.ref a, x]) rfl F hr hb I (.cons rfl (.cons rx .nil)) q) (fun r s' hq => ?_) fun _ _ z => z))
  obtain ⟨w, H', I', rw_, b, rfl, qq⟩ := hq
  obtain rfl : r = Value.bool b := rw_
  exact wpAny_truthy_bool (wpAny_pure ⟨.bl b, H', I', rfl, qq⟩)
theorem op_ninOwn (hM : Meth X.K C "__contains__" f) (F : FnOk X.prog X.w X.K X.mg X.base CX0 k f fd ps sp) (hr : Room k X.A) (hb : Binds X.K fd ps []) : OpR X (compareOp .NotIn) (rInOwn C sp true) := by
  intro pins s σ H x y v u Q I rx ry h
  obtain ⟨a, dx, fs, rfl, ha, q⟩ := h
  obtain rfl : u = Value.ref a := ry
  obtain ⟨mA, J, _⟩ := ins_get I.hok ha
  obtain ⟨od, J, _⟩ := J.look
  show wpAny _ X.A (contains (.ref a) v >>= fun b => pure (Value.bool (!b))) _ _ _
  refine wpAny_bind (own_contains I.kIn J hM.at_ hM.fn (wpAny_mono (run_at (vs := [.ref a, x]) rfl F hr hb I (.cons rfl (.cons rx .nil)) q) (fun r s' hq => ?_) fun _ _ z => z))
  obtain ⟨w, H', I', rw_, b, rfl, qq⟩ := hq
  obtain rfl : r = Value.bool b := rw_
  exact wpAny_truthy_bool (wpAny_pure ⟨.bl (!b), H', I', rfl, qq⟩)
def rLenOwn (C : Addr) (sp : Sp) : List V → Hp → VK → Prop := fun xs H Q => ∃ a dx fs, xs = [.ref a] ∧ H a = some (.ins C dx fs) ∧ sp [.ref a] H (fun v H' => ∃ n : Int, v = .int n ∧ 0 ≤ n ∧ n < 2 ^ 62 ∧ Q (.int n) H') E0
theorem call_lenOwn (hM : Meth X.K C "__len__" f) (F : FnOk X.prog X.w X.K X.mg X.base CX0 k f fd ps sp) (hr : Room (k + 1) X.A) (hb : Binds X.K fd ps []) : CallR X (.builtin "len") (rLenOwn C sp) := by
  intro pins s σ H xs us Q I rv h
  obtain ⟨a, dx, fs, rfl, ha, q⟩ := h
  obtain ⟨u, rfl, ru⟩ := rv.one
  cases ru
  obtain ⟨mA, J, _⟩ := ins_get I.hok ha
  obtain ⟨od, J, _⟩ := J.look
  refine Calls.call_function_entry kind_len plain_len entry_len (args_len1 _) ?_
  unfold Builtin.«len»
  refine wpAny_bind (m := oneArg "len" _) (wpAny_pure ?_)
  refine wpAny_bind (m := callSpecial? _ (Str.ofString "__len__")) (PySem.W.special_fn I.kIn J hM.at_ (beq_iff_eq.mp hM.fn) (wpAny_mono (run_at (A1 := X.A.in1) (vs := [.ref a]) rfl F hr.in1 hb I (.cons rfl .nil) q) (fun r s' hq => ?_) fun _ _ z => z))
  obtain ⟨w, H', I', rw_, n, rfl, h0, h1, qq⟩ := hq
  obtain ⟨t, rfl⟩ := (show ∃ t, r = Value.int n t from rw_)
  refine wpAny_bind (wpAny_holding (wpAny_pure ?_))
  refine wpAny_bind (wpAny_letGo ?_)
  show wpAny _ _ (if n < 0 then _ else _) _ _ _
  rw [if_neg (by omega)]
  show wpAny _ _ (if n ≥ 2 ^ 63 then _ else _) _ _ _
  rw [if_neg (by omega)]
  exact wpAny_bind (wpAny_mkInt (wpAny_pure ⟨_, rfl, V.int n, H', I'.tok _, ⟨_, rfl⟩, qq⟩))
end
/-! ### for x in o, where o's __iter__ hands back iter of a field's list -/
/-- what such an __iter__ promises -/
def spIt (K : PySem.W.Frag) (C : Addr) (fld : Str) (n : Nat) : Sp := fun vs H Q _ => ∃ a dx fs l zs, vs = [.ref a] ∧ H a = some (.ins C dx fs) ∧ fs.lookup fld = some (.ref l) ∧ SqL K H l zs ∧ ∀ it, H it = none → n ≤ it → Q (.ref it) (upd H it (ItO l it 0))
section
variable {X : Cx} {C f : Addr} {fld : Str} {e : Expr} {p1 p3 p4 p5 : Pos}
theorem call_iterB : CallR X (.builtin "iter") (ItX.rIterN X.K X.base.objs.size) := by
  intro pins s σ H xs us Q I r h
  obtain ⟨l, zs, h1, h2, q⟩ := h
  exact ItX.call_iterN pins s σ H xs us Q I r ⟨l, zs, h1, h2, fun it n1 n2 => q it n1 (Nat.le_trans I.ok.bsz n2)⟩
theorem iter_pss (hC : Cls X.K C) (hN : NoAttr X.K C fld) (hg : Gl X "iter") (hm : X.mg "iter" = none) (hv : PE X e (tVar 0)) (hb : attributeBase e fld X.env (eval e X.env) = eval e X.env := by rfl)
    (he : starEach [.Attribute e fld p3] X.env = (false, eval (.Attribute e fld p3) X.env) :: starEach [] X.env := by rfl) (hpl : (backTo p4 (starEach [] X.env)).any (·.1) = false := by rfl) {vs : List V} {H : Hp} {Q : VK} {E : XK} (h : spIt X.K C fld X.base.objs.size vs H Q E) :
    ∃ t, PSs X [.Return (some (.Call (.Name "iter" p1) [.Attribute e fld p3] [] p4)) p5] t ∧ t { nx := fun _ H' => Q .non H', rt := Q } (L2.start ["self"] vs) H := by
  refine ⟨_, pss_one (ps_ret (pe_callB call_iterB hg hm PyProof.Rows.boot_iter (pa_cons (pe_fld hv hb) pa_nil) (by decide) (by decide) he hpl)), ?_⟩
  obtain ⟨a, dx, fs, l, zs, rfl, ha, hl, hq, q⟩ := h
  exact ⟨.ref a, rfl, a, C, dx, fs, .ref l, rfl, ha, hC, hN, hl, l, zs, rfl, hq, q⟩
end
section
variable {X : Cx} {pins : List (Addr × Obj)} {σ : L2.St} {H : Hp} {s : Shared} {C f : Addr} {fd : FuncData} {ps : List Str} {k : Nat} {fld : Str}
/-- the lasting part of the heap, as long as the heap itself -/
def padB (base h : Heap) : Heap := PySem.W.hideAll h ((List.range h.objs.size).filter fun b => (base.get? b).isNone)
theorem padB_some {base h : Heap} {b : Addr} {o : Obj} (hk : ∀ b o, base.get? b = some o → h.get? b = some o) : (padB base h).get? b = some o ↔ base.get? b = some o := by
  constructor
  · intro e
    have e1 := PySem.W.of_hideAll _ e
    cases q : base.get? b with
    | some o' => rw [hk b o' q] at e1; exact e1
    | none =>
      have hm : b ∈ (List.range h.objs.size).filter fun b => (base.get? b).isNone := by
        rw [List.mem_filter, List.mem_range]; exact ⟨Heap.lt_size e1, by rw [q]; rfl⟩
      have := PySem.W.hideAll_none _ hm (h := h)
      unfold padB at e
      rw [this] at e; cases e
  · intro e
    refine PySem.W.hideAll_get _ (hk b o e) fun hm => ?_
    rw [List.mem_filter, e] at hm
    cases hm.2
theorem env0_pad {A1 : Around} (hA : A1.frames = X.A.frames) (I : Inv X pins σ H s) : Env0 X.prog X.w X.K X.mg (padB X.base s.heap) A1 X.stack s H := by
  have e := I.env0
  have hk : ∀ b o, X.base.get? b = some o → s.heap.get? b = some o := fun b o h => (e.bs b o h).1
  have up : ∀ b o, X.base.get? b = some o → (padB X.base s.heap).get? b = some o := fun b o h => (padB_some hk).mpr h
  obtain ⟨m1, m2, ⟨mb, m3, m4⟩, m5⟩ := e.mod
  refine ⟨by rw [hA]; exact e.frames, ⟨m1.keeps up, m2.keeps up, ⟨mb, m3.keeps up, m4⟩, m5.keeps up⟩, fun b o h => e.bs b o ((padB_some hk).mp h), Nat.le_of_eq (PySem.W.hideAll_size _ _), L2.funFrames_none e.funs fun L hL => ?_, e.frf, e.hok, e.bare⟩
  cases q : (padB X.base s.heap).get? L with
  | none => rfl
  | some o =>
    have := (padB_some hk).mp q
    rw [(e.funs.mem hL).1] at this; cases this
/-- __iter__ is called: its iterator is new -/
theorem run_iter {A1 : Around} {R : Value → Shared → Prop} {a l dx : Addr} {fs : List (Str × V)} {zs : List V} (hA : A1.frames = X.A.frames) (F : ∀ base, FnOk X.prog X.w X.K X.mg base CX0 k f fd ps (spIt X.K C fld base.objs.size)) (hr : Room k A1) (hb : Binds X.K fd ps [])
    (I : Inv X pins σ H s) (ha : H a = some (.ins C dx fs)) (hl : fs.lookup fld = some (.ref l)) (hq : SqL X.K H l zs)
    (h : ∀ it s', Inv X pins σ (upd H it (ItO l it 0)) s' → H it = none → s.heap.objs.size ≤ it → R (.ref it) s') : wpAny (model X.prog X.w) A1 (call (.ref f) [.ref a]) R X.xe s := by
  have hsz : (padB X.base s.heap).objs.size = s.heap.objs.size := PySem.W.hideAll_size _ _
  have hsp : spIt X.K C fld (padB X.base s.heap).objs.size [.ref a] H (fun v H' => ∃ it, v = .ref it ∧ H it = none ∧ s.heap.objs.size ≤ it ∧ H' = upd H it (ItO l it 0)) E0 :=
    ⟨a, dx, fs, l, zs, rfl, ha, hl, hq, fun it n1 n2 => ⟨it, rfl, n1, by rw [hsz] at n2; exact n2, rfl⟩⟩
  have r : Vals [V.ref a] [Value.ref a] := .cons rfl .nil
  have hlen : ([Value.ref a] : List Value).length = ps.length := (F _).len _ _ _ _ hsp
  have hb' : BindsTo s fd ⟨[.ref a], []⟩ (ps.zip [.ref a]) := by simpa using hb s [.ref a] I.kIn (by simpa using hlen)
  refine wpAny_call (codeAny_mono ((F _).run A1 X.stack s H ⟨[.ref a], []⟩ [.ref a] [.ref a] _ E0 hr (env0_pad hA I) hb' r hsp) fun rr s' hq' => ?_)
  rcases rr with ex | fl
  · exact False.elim hq'
  · cases fl
    case ret u =>
      obtain ⟨v, H', I', rv, it, rfl, n1, n2, rfl⟩ := I.after hq'
      cases rv
      exact h it s' I' n1 n2
    all_goals exact False.elim hq'
theorem iter_own {Q : Value → Shared → Prop} {a l dx : Addr} {fs : List (Str × V)} {zs : List V} (hM : Meth X.K C "__iter__" f) (F : ∀ base, FnOk X.prog X.w X.K X.mg base CX0 k f fd ps (spIt X.K C fld base.objs.size)) {A1 : Around} (hA : A1.frames = X.A.frames) (hr : Room k A1) (hb : Binds X.K fd ps [])
    (I : Inv X pins σ H s) (ha : H a = some (.ins C dx fs)) (hl : fs.lookup fld = some (.ref l)) (hq : SqL X.K H l zs)
    (h : ∀ it s', Inv X pins σ H s' → s'.heap.IsListIter it l 0 → FpOk X pins H it → Q (.ref it) s') : wpAny (model X.prog X.w) A1 (pyIter (.ref a)) Q X.xe s := by
  obtain ⟨mA, J, _⟩ := ins_get I.hok ha
  obtain ⟨od, J, _⟩ := J.look
  obtain ⟨m, hF⟩ := I.fr
  refine PySem.W.owit_iter hF I.ok.mod.kin J hM.at_ hM.fn (run_iter hA F hr hb I ha hl hq fun it s' I' n1 n2 => ?_)
  have hit : s'.heap.get? it = some (GNX.itObj l 0) := itO_get I' upd_same
  have hd := ItX.inv_drop I' upd_same
  have hf := ItX.inv_fp I' upd_same (Nat.le_trans I.sz n2)
  rw [ItX.dropH_upd n1] at hd hf
  unfold PySem.W.OwitIt
  refine wpAny_specialOf (T := "list_iterator") (r := some (.builtin "list_iterator.__next__")) ⟨_, hit, rfl⟩ ?_ ?_
  · rw [typeLookup_type, builtinLookup_eq_fast]; kernel_rfl
  · exact h it s' hd ⟨_, hit, rfl, rfl⟩ hf
def iOwn (K : PySem.W.Frag) (C : Addr) (fld : Str) (te : TE) : TI := fun σ H R => te σ H fun x H1 => ∃ a dx fs l zs, x = .ref a ∧ H1 a = some (.ins C dx fs) ∧ fs.lookup fld = some (.ref l) ∧ SqL K H1 l zs ∧ R (Itl K l) H1
theorem pi_own {tg e : Expr} {te : TE} (he : PE X e te) (hM : Meth X.K C "__iter__" f) (F : ∀ base, FnOk X.prog X.w X.K X.mg base CX0 k f fd ps (spIt X.K C fld base.objs.size)) (hr : Room k X.A) (hb : Binds X.K fd ps []) : PI X tg e (iOwn X.K C fld te) := by
  refine ⟨fun pins s σ H R I h => ?_⟩
  refine wpAny_mono (he.run pins s σ H _ I h) (fun v s1 hv => ?_) fun _ _ z => z
  obtain ⟨x, H1, I1, r1, a, dx, fs, l, zs, rfl, ha, hl, hq, q⟩ := hv
  cases r1
  refine iter_own hM F rfl hr hb I1 ha hl hq fun it s' I' hi hf => ?_
  refine ⟨it, [it], _, _, H1, rfl, I', turn_list l it, hi, fun b hbb => ?_, q⟩
  have eb : b = it := by simpa using hbb
  subst eb
  exact hf
end
end VI
/-! ### the same for trees -/
namespace VI
open PySem PySem.Spec PyProof.Rows L2
section
variable {X : Cx} {cl : Nat → Addr} {g : List D → Option (D × Ev)} {c : Nat} {tg e : Expr} {me : Ev → Option D} {f : Addr} {fd : FuncData} {ps : List Str} {k : Nat} {fld : Str} {p pos : Pos}
def isCl (c : Nat) : D → Bool
  | .obj _ c' _ _ => c' == c
  | _ => false
theorem isCl_view {B H : Hp} {d : D} {v : V} {fp : List Addr} (h : isCl c d = true) (s : BLe B H) (r : Rep X.K cl B H d v fp) : ∃ a dx fs, v = .ref a ∧ H a = some (.ins (cl c) dx fs) := by
  cases d <;> simp only [isCl] at h <;> try (cases h; done)
  rw [beq_iff_eq] at h
  subst h
  obtain ⟨a, dx, vs, fq, e1, e2, _⟩ := r.obj_view s
  exact ⟨a, dx, _, e1, e2⟩
/-- what a look's call gives -/
def apB (g : List D → Option (D × Ev)) (ds : List D) : Option D := (g (D.frzL ds)).bind fun r => if D.plainL ds = true ∨ r.1.clean = true then some r.1 else none
theorem apB_some {ds : List D} {d : D} (h : apB g ds = some d) : ∃ A', g (D.frzL ds) = some (d, A') ∧ (D.plainL ds = true ∨ d.clean = true) := by
  unfold apB at h
  simp only [Option.bind_eq_some_iff] at h
  obtain ⟨r, h1, h2⟩ := h
  split at h2
  · rename_i hc
    cases h2
    exact ⟨r.2, h1, hc⟩
  · cases h2
def blD (neg : Bool) : D → Option D
  | .bl b => some (.bl (if neg then !b else b))
  | _ => none
def lnD : D → Option D
  | .int n => if 0 ≤ n ∧ n.natAbs < 2 ^ 62 then some (.int n) else none
  | _ => none
def inOwnD (c : Nat) (g : List D → Option (D × Ev)) (neg : Bool) (x y : D) : Option D := if isCl c y = true then (apB g [y, x]).bind (blD neg) else none
def lenOwnD (c : Nat) (g : List D → Option (D × Ev)) : List D → Option D
  | [y] => if isCl c y = true then (apB g [y]).bind lnD else none
  | _ => none
theorem inOwn_ok {neg : Bool} : OpD X cl (rInOwn (cl c) (SpF X.K cl [] 2 g) neg) (inOwnD c g neg) := by
  intro B H x y d u v f1 f2 s r1 r2 h Q q
  unfold inOwnD at h
  split at h
  · rename_i hc
    obtain ⟨a, dx, fs, rfl, ha⟩ := isCl_view hc s r2
    simp only [Option.bind_eq_some_iff] at h
    obtain ⟨d1, h1, h2⟩ := h
    obtain ⟨A', h3, h4⟩ := apB_some h1
    refine ⟨a, dx, fs, rfl, ha, call_pure s (repL_cons r2 (repL_cons r1 repL_nil)) rfl h3 h4 fun w B' H' fq n rw_ fr => ?_⟩
    cases d1 <;> simp only [blD] at h2 <;> try (cases h2; done)
    cases h2
    rw [rep_bl_iff] at rw_
    exact ⟨_, rw_.1, q _ B' H' [] n rep_bl Fresh.nil⟩
  · cases h
theorem lenOwn_ok : CallD X cl (rLenOwn (cl c) (SpF X.K cl [] 1 g)) (lenOwnD c g) := by
  intro B H ds d vs fp s r h Q q
  unfold lenOwnD at h
  split at h
  · rename_i y
    split at h
    · rename_i hc
      obtain ⟨v, rfl, r1⟩ := repL_one r
      obtain ⟨a, dx, fs, rfl, ha⟩ := isCl_view hc s r1
      simp only [Option.bind_eq_some_iff] at h
      obtain ⟨d1, h1, h2⟩ := h
      obtain ⟨A', h3, h4⟩ := apB_some h1
      refine ⟨a, dx, fs, rfl, ha, call_pure s r rfl h3 h4 fun w B' H' fq n rw_ fr => ?_⟩
      cases d1 <;> simp only [lnD] at h2 <;> try (cases h2; done)
      split at h2
      · rename_i hb
        cases h2
        rw [rep_int_iff] at rw_
        exact ⟨_, rw_.1, hb.1, by omega, q _ B' H' [] n rep_int Fresh.nil⟩
      · cases h2
    · cases h
  · cases h
def ownItems (c : Nat) (fld : Str) : D → Option (List D)
  | .obj _ c' fs xs => if c' = c then ((fs.zip xs).lookup fld).bind fun d => match d with
    | .lst false ys => some ys
    | _ => none
    else none
  | _ => none
def mOwnIt (c : Nat) (fld : Str) (m : Ev → Option D) : Ev → Option (List D) := fun A => (m A).bind fun d => ownItems c fld d.frz
theorem vi_own (he : EvD X cl e me) (hM : Meth X.K (cl c) "__iter__" f) (F : ∀ base, FnOk X.prog X.w X.K X.mg base CX0 k f fd ps (spIt X.K (cl c) fld base.objs.size)) (hr : Room k X.A) (hb : Binds X.K fd ps []) : VI_ X cl tg e (mOwnIt c fld me) := by
  obtain ⟨t, p, r⟩ := he
  refine ⟨_, pi_own p hM F hr hb, fun σ A B H R0 ds hd R q => ?_⟩
  unfold mOwnIt at hd
  simp only [Option.bind_eq_some_iff] at hd
  obtain ⟨d, h1, h2⟩ := hd
  refine r σ A B H R0 d h1 _ fun v B' H' fp n rp fr => ?_
  obtain ⟨n2, r2⟩ := n.frz rp fr
  generalize d.frz = z at h2 r2
  cases z <;> simp only [ownItems] at h2 <;> try (cases h2; done)
  split at h2
  · rename_i hc
    subst hc
    simp only [Option.bind_eq_some_iff] at h2
    obtain ⟨y, hy, h2⟩ := h2
    obtain ⟨a, dx, vs, fq, e1, q1, l, q2⟩ := r2.obj_view n2.sub
    obtain ⟨w, f', k1, k2, _⟩ := zip_fld l q2 hy
    split at h2
    · rename_i ys
      cases h2
      simp only [Rep] at k2
      obtain ⟨a2, us, e2, q3, q4, _⟩ := k2
      subst e2
      exact ⟨a, dx, _, a2, us, e1, q1, k1, .of (n2.sub.lst _ _ q3), q _ _ H' n2 (it_list q3 q4)⟩
    · cases h2
  · cases h2
end
end VI
set_option Elab.async false
set_option linter.all false
set_option maxRecDepth 100000
set_option autoImplicit false
/-! ### len(o) and list(o) where __len__ tells the length of a field's list, and __iter__ is its iterator -/
namespace VI
open PySem PySem.Spec PyProof.Rows L2
/-- what such a __len__ promises -/
def spLn (K : PySem.W.Frag) (C : Addr) (fld : Str) : Sp := fun vs H Q _ => ∃ a dx fs l zs, vs = [.ref a] ∧ H a = some (.ins C dx fs) ∧ fs.lookup fld = some (.ref l) ∧ SqL K H l zs ∧ zs.length ≤ 100000 ∧ Q (.int zs.length) H
section
variable {X : Cx} {pins : List (Addr × Obj)} {σ : L2.St} {H : Hp} {s : Shared} {C f fl : Addr} {fd fdl : FuncData} {ps psl : List Str} {k kl : Nat} {fld : Str} {e : Expr} {p1 p3 p4 p5 : Pos}
theorem len_pss (hC : Cls X.K C) (hN : NoAttr X.K C fld) (hg : Gl X "len") (hm : X.mg "len" = none) (hb' : bootBuiltins "len" = some (.builtin "len")) (hv : PE X e (tVar 0)) (hb : attributeBase e fld X.env (eval e X.env) = eval e X.env := by rfl)
    (he : starEach [.Attribute e fld p3] X.env = (false, eval (.Attribute e fld p3) X.env) :: starEach [] X.env := by rfl) (hpl : (backTo p4 (starEach [] X.env)).any (·.1) = false := by rfl) {vs : List V} {Q : VK} {E : XK} (h : spLn X.K C fld vs H Q E) :
    ∃ t, PSs X [.Return (some (.Call (.Name "len" p1) [.Attribute e fld p3] [] p4)) p5] t ∧ t { nx := fun _ H' => Q .non H', rt := Q } (L2.start ["self"] vs) H := by
  refine ⟨_, pss_one (ps_ret (pe_callB call_lenA hg hm hb' (pa_cons (pe_fld hv hb) pa_nil) (by decide) (by decide) he hpl)), ?_⟩
  obtain ⟨a, dx, fs, l, zs, rfl, ha, hl, hq, hz, q⟩ := h
  refine ⟨.ref a, rfl, a, C, dx, fs, .ref l, rfl, ha, hC, hN, hl, ?_⟩
  exact .inl ⟨l, zs, rfl, .inl hq, q⟩
theorem len_own {A1 : Around} {Q EE : Value → Shared → Prop} {a l dx : Addr} {fs : List (Str × V)} {zs : List V} (hM : Meth X.K C "__len__" fl) (F : FnOk X.prog X.w X.K X.mg X.base CX0 kl fl fdl psl (spLn X.K C fld)) (hA : A1.frames = X.A.frames) (hr : Room (kl + 1) A1) (hb : Binds X.K fdl psl [])
    (I : Inv X pins σ H s) (ha : H a = some (.ins C dx fs)) (hl : fs.lookup fld = some (.ref l)) (hq : SqL X.K H l zs) (hz : zs.length ≤ 100000) (h : ∀ s' t, Inv X pins σ H s' → Q (.int (zs.length : Nat) t) s') : wpAny (model X.prog X.w) A1 (call (.builtin "len") [.ref a]) Q EE s := by
  obtain ⟨mA, J, _⟩ := ins_get I.hok ha
  obtain ⟨od, J, _⟩ := J.look
  refine Calls.call_function_entry kind_len plain_len entry_len (args_len1 _) ?_
  unfold Builtin.«len»
  refine wpAny_bind (m := oneArg "len" _) (wpAny_pure ?_)
  refine wpAny_bind (m := callSpecial? _ (Str.ofString "__len__")) (PySem.W.special_fn I.kIn J hM.at_ (beq_iff_eq.mp hM.fn) (wpAny_mono (run_at (Q := fun v H' => v = .int (zs.length : Nat) ∧ H' = H) (A1 := A1.in1) (vs := [.ref a]) hA F hr.in1 hb I (.cons rfl .nil) ⟨a, dx, fs, l, zs, rfl, ha, hl, hq, hz, rfl, rfl⟩) (fun r s' hq => ?_) fun _ _ z => z))
  obtain ⟨w, H', I', rw_, rfl, rfl⟩ := hq
  obtain ⟨t, rfl⟩ := (show ∃ t, r = Value.int _ t from rw_)
  refine wpAny_bind (wpAny_holding (wpAny_pure ?_))
  refine wpAny_bind (wpAny_letGo ?_)
  show wpAny _ _ (if (zs.length : Int) < 0 then _ else _) _ _ _
  rw [if_neg (by omega)]
  show wpAny _ _ (if (zs.length : Int) ≥ 2 ^ 63 then _ else _) _ _ _
  rw [if_neg (by omega)]
  exact wpAny_bind (wpAny_mkInt (wpAny_pure ⟨_, rfl, h _ _ (I'.tok _)⟩))
theorem SqL.updn {K : PySem.W.Frag} {q l : Addr} {o : HO} {zs : List V} (h : SqL K H l zs) (hq : H q = none) (hk : ∀ o, K.lookup q ≠ some o) : SqL K (upd H q o) l zs := by
  by_cases e : l = q
  · subst e
    rcases h with h | ⟨o, its, n, h1, _⟩
    · rcases h with h | h <;> simp_all
    · exact absurd h1 (hk o)
  · exact h.ext fun b o' hb => by rw [upd_ne (fun z => by rw [z, hq] at hb; cases hb)]; exact hb
theorem ext_loop {A1 : Around} {q it l : Addr} {zs : List V} {Rs : Result → Shared → Prop} (hh : A1.handled = none) (hql : q ≠ l) (hql2 : it ≠ q) (hdone : ∀ s, Inv X pins σ (upd H q (.lst zs)) s → Rs (.ok (.ret .none)) s)
    (hf : FpOk X pins H it) (hqz : ∀ ys, SqL X.K (upd H q (.lst ys)) l zs) (hz : zs.length ≤ 100000) :
    ∀ (k i : Nat) (s : Shared), zs.length - i = k → i ≤ zs.length → Inv X pins σ (upd H q (.lst (zs.take i))) s → s.heap.IsListIter it l i → codeAny (model X.prog X.w) A1 (.builtin "list.extend.loop" ⟨[.ref q, .ref it, .none], []⟩) Rs s := by
  obtain ⟨f0, f1, f2, f3, f4, f5⟩ := hf
  have fn : ∀ ys, upd H q (.lst ys) it = none := fun ys => by rw [upd_ne hql2]; exact f0
  intro k
  induction k with
  | zero =>
    intro i s hk hi I st
    have e : i = zs.length := by omega
    subst e
    rw [List.take_length] at I
    refine codeAny_builtin PySem.F.entry_extend_loop ?_
    rw [Around.under_plainId PySem.F.plain_extend_loop _]
    show wpAny _ A1.in1 (pyNext (.ref it) >>= _) _ _ s
    obtain ⟨its, rv, p, hz'⟩ := I.list (hqz _)
    have hl := rv.length
    exact wpAny_bind (wpAny_pyNext_list_end hh st p.isList (by simp; omega) fun h' eb => wpAny_pure (hdone _ (I.turned (t' := s.toks) (fun b o hb e => eb b o hb e) (fn _) f1 f3 f4 f5)))
  | succ k ih =>
    intro i s hk hi I st
    have hi' : i < zs.length := by omega
    refine codeAny_builtin PySem.F.entry_extend_loop ?_
    rw [Around.under_plainId PySem.F.plain_extend_loop _]
    show wpAny _ A1.in1 (pyNext (.ref it) >>= _) _ _ s
    obtain ⟨its, rv, p, hz'⟩ := I.list (hqz _)
    obtain ⟨u, hu, ru⟩ := rv.get (List.getElem?_eq_getElem hi')
    refine wpAny_bind (wpAny_pyNext_list_item st p.isList (x := u) (by simpa using hu) fun h' st' sb => ?_)
    have I1 : Inv X pins σ (upd H q (.lst (zs.take i))) { s with heap := h' } := I.turned (t' := s.toks) (fun b o hb e => (sb.2 b hb).trans e) (fn _) f1 f3 f4 f5
    show wpAny _ A1.in1 (updateSeq q (·.push u) >>= _) _ _ _
    obtain ⟨z, jts, n, r2, hl, e⟩ := I1.lstM upd_same
    have htl : (zs.take i).length = i := by simp; omega
    have hline : i + 1 ≤ sizeLine := by rw [sizeLine_eq]; omega
    refine wpAny_bind (wpAny_updateSeq e rfl (wpAny_pure ⟨plainId_quiet PySem.F.plain_extend_loop _, ?_⟩) (by rw [List.size_toArray]; omega) (by show (jts.toArray.push u).size ≤ sizeLine + 1; rw [Array.size_push, List.size_toArray]; omega))
    have I2 := I1.lset (f := (·.push u)) (its' := jts ++ [u]) (t' := s.toks) (ys := zs.take (i + 1)) upd_same e (by simp) (by
      have := r2.append (.cons ru .nil)
      rwa [← List.take_succ_eq_append_getElem hi'] at this) (by simp; omega)
    rw [upd_upd] at I2
    exact ih (i + 1) _ (by omega) hi' I2 (st'.at fun o ho => (Heap.get?_update_other _ _ (fun z => hql2 z.symm)).trans ho)
/-- list(o) -/
def rLstOwn (K : PySem.W.Frag) (C : Addr) (fld : Str) : List V → Hp → VK → Prop := fun xs H Q => ∃ a dx fs l zs, xs = [.ref a] ∧ H a = some (.ins C dx fs) ∧ fs.lookup fld = some (.ref l) ∧ SqL K H l zs ∧ zs.length ≤ 100000 ∧ ∀ q, H q = none → Q (.ref q) (upd H q (.lst zs))
theorem own_hintL {A1 : Around} {Q : Bool → Shared → Prop} {a l dx : Addr} {fs : List (Str × V)} {zs : List V} (hM : Meth X.K C "__len__" fl) (F : FnOk X.prog X.w X.K X.mg X.base CX0 kl fl fdl psl (spLn X.K C fld)) (hA : A1.frames = X.A.frames) (hr : Room (kl + 1) A1) (hb : Binds X.K fdl psl [])
    (I : Inv X pins σ H s) (ha : H a = some (.ins C dx fs)) (hl : fs.lookup fld = some (.ref l)) (hq : SqL X.K H l zs) (hz : zs.length ≤ 100000) (h : ∀ s' b, Inv X pins σ H s' → Q b s') : wpAny (model X.prog X.w) A1 (Builtin.List.listLengthHint (.ref a)) Q X.xe s := by
  obtain ⟨mA, J, _⟩ := ins_get I.hok ha
  obtain ⟨od, J, _⟩ := J.look
  have hL := PySem.W.looks_findIn (M := model X.prog X.w) I.kIn hM.at_
  unfold Builtin.List.listLengthHint
  refine wpAny_bind (wpAny_bind (J.type.here (hL.here ?_)))
  refine PySem.W.KFB.if_not rfl ?_
  dsimp only
  rw [if_pos (show (some (Value.ref fl)).isSome = true from rfl)]
  refine wpAny_bind (wpAny_rule ?_)
  refine wpAny_bind (wpAny_attempt (len_own hM F hA hr hb I ha hl hq hz fun s' t I' => ?_))
  refine wpAny_bind (m := asInt? (.int (zs.length : Nat) t)) (wpAny_pure ?_)
  dsimp only
  rw [if_neg (by rw [notLongL (by rw [sizeLine_eq]; simp; omega)]; decide)]
  exact wpAny_pure (h s' _ I')
theorem call_lstOwn (hcalm : X.calm = true) (hML : Meth X.K C "__len__" fl) (FL : FnOk X.prog X.w X.K X.mg X.base CX0 kl fl fdl psl (spLn X.K C fld)) (hrl : Room (kl + 3) X.A) (hbl : Binds X.K fdl psl [])
    (hMI : Meth X.K C "__iter__" f) (FI : ∀ base, FnOk X.prog X.w X.K X.mg base CX0 k f fd ps (spIt X.K C fld base.objs.size)) (hr : Room (k + 2) X.A) (hb : Binds X.K fd ps []) : CallR X (.type "list") (rLstOwn X.K C fld) := by
  intro pins s σ H xs us Q I rv h
  obtain ⟨a, dx, fs, l, zs, rfl, ha, hl, hq, hz, qq⟩ := h
  obtain ⟨u, rfl, ru⟩ := rv.one
  cases ru
  refine callType_codes (Q₁ := fun obj s₁ => obj = .ref s.heap.objs.size ∧ s₁ = { s with heap := s.heap.push { cls := .type "list", data := .seq #[] } }) PySem.F.called_list (PySem.F.typeCall_list_1 _) PySem.F.entry_list_init
    (code_list_new _ ⟨rfl, rfl⟩) fun obj s₁ h₁ => ?_
  obtain ⟨rfl, rfl⟩ := h₁
  have hS : (s.heap.push { cls := .type "list", data := .seq #[] }).get? s.heap.objs.size = some { cls := .type "list", data := .seq #[] } := Heap.get?_push_size _ rfl
  refine ⟨⟨_, hS, rfl⟩, PySem.F.args_list_init_2 _ _, ?_⟩
  have fr : H s.heap.objs.size = none := I.hok.fresh (Nat.le_refl _)
  obtain ⟨q, hqe⟩ : ∃ q, s.heap.objs.size = q := ⟨_, rfl⟩
  have hkq : ∀ o, X.K.lookup s.heap.objs.size ≠ some o := fun o e => Nat.lt_irrefl _ (Heap.lt_size (I.kIn _ _ e))
  have I1 : Inv X pins σ (upd H s.heap.objs.size (.lst [])) { s with heap := s.heap.push { cls := .type "list", data := .seq #[] } } := I.lnew (its := []) (t' := s.toks) .nil (Nat.zero_le _)
  show wpAny _ _ (do let old ← Builtin.List.listItems (.ref s.heap.objs.size); Builtin.List.listUpdate (.ref s.heap.objs.size) (fun _ => #[]); letGo old.toList.reverse; Builtin.List.listExtendWith (.ref s.heap.objs.size) (.ref a) .none) _ _ _
  refine wpAny_bind ?_
  unfold Builtin.List.listItems
  refine wpAny_bind (wpAny_seqItems hS rfl (wpAny_pure ?_))
  show wpAny _ _ (updateSeq s.heap.objs.size (fun _ => #[]) >>= fun _ => letGo (#[] : Array Value).toList.reverse >>= fun _ => Builtin.List.listExtendWith (.ref s.heap.objs.size) (.ref a) .none) _ _ _
  refine wpAny_bind (wpAny_updateSeq hS rfl ?_)
  have I2 := I1.lset (f := fun _ => #[]) (its := []) (its' := []) (ys := []) (t' := s.toks) upd_same hS rfl .nil (Nat.zero_le _)
  rw [upd_upd] at I2
  refine wpAny_bind (wpAny_letGo ?_)
  have ha2 : upd H s.heap.objs.size (.lst []) a = some (.ins C dx fs) := by rw [upd_ne (ne_of_none ha fr)]; exact ha
  have hq2 : ∀ ys, SqL X.K (upd H s.heap.objs.size (.lst ys)) l zs := fun ys => SqL.updn hq fr hkq
  have fr' : H q = none := by rw [← hqe]; exact fr
  have hkq' : ∀ o, X.K.lookup q ≠ some o := by rw [← hqe]; exact hkq
  rw [hqe] at *
  clear hS
  generalize ({ s with heap := _ } : Shared) = s2 at I2
  have hne : q ≠ a := ne_of upd_same ha2 (fun z => nomatch z)
  obtain ⟨mA, J, _⟩ := ins_get I2.hok ha2
  obtain ⟨od, J, _⟩ := J.look
  unfold Builtin.List.listExtendWith
  refine wpAny_bind (J.type.here ?_)
  have h1 : Builtin.List.listSameRef (.ref q) (.ref a) = false := by simp [Builtin.List.listSameRef, hne]
  have h2 : (Value.ref C == Value.type "list") = false := rfl
  have h3 : (Value.ref C == Value.type "tuple") = false := rfl
  simp only [h1, h2, h3, Bool.or_false, Bool.false_eq_true, if_false]
  refine wpAny_bind (iter_own hMI FI rfl hr.in1.in1 hb I2 ha2 hl (hq2 _) fun it s3 I3 st hf => ?_)
  have hiq : it ≠ q := fun z => by have := hf.1; rw [z, upd_same] at this; cases this
  have hf0 : FpOk X pins H it := ⟨by have := hf.1; rwa [upd_ne hiq] at this, hf.2⟩
  have I4 := I3.pinned (fp := [it]) (fun b hb => by
    have e : b = it := by simpa using hb
    subst e; exact hf) (fun b hb => by
    have e : b = it := by simpa using hb
    subst e
    obtain ⟨o, e, c, d⟩ := id st
    exact ⟨o, e, fun v z => by rw [d] at z; cases z⟩)
  refine wpAny_bind (wpAny_holding (own_hintL hML FL rfl hrl.in1.in1 hbl I4 ha2 hl (hq2 _) hz fun s4 b I4 => ?_))
  have st4 : s4.heap.IsListIter it l 0 := st.at fun o e => (I4.pin (it, o) (List.mem_append_right _ (List.mem_append_right _ (mem_pinsAt (by simp) e)))).1
  have I5 := I4.unpinned
  have hcd : (X.A.in1).handled = none := I2.ok.hd hcalm
  have hlq : q ≠ l := fun z => by
    rcases hq with h | ⟨o, _, _, h, _⟩
    · rw [← z] at h
      rcases h with h | ⟨_, h⟩ <;> rw [fr'] at h <;> cases h
    · rw [← z] at h; exact hkq' _ h
  have fin : ∀ s' : Shared, Inv X pins σ (upd H q (.lst [])) s' → s'.heap.IsListIter it l 0 → codeAny (model X.prog X.w) X.A.in1 (.builtin "list.extend.loop" ⟨[.ref q, .ref it, .none], []⟩) (wants (fun r s₂ => r = .none ∧ EP X pins σ Q (.ref q) s₂) X.xe) s' := fun s' I' st' =>
    ext_loop (A1 := X.A.in1) hcd hlq hiq (fun s'' I'' => ⟨rfl, .ref q, _, I'', rfl, qq q fr'⟩) hf0 hq2 hz _ 0 s' rfl (Nat.zero_le _) (by simpa using I') st'
  obtain ⟨z, its, k, r3, hl3, e3⟩ := I5.lstM upd_same
  cases r3
  refine wpAny_ite_split (fun _ => ?_) (fun _ => wpAny_pure ⟨plainId_quiet PySem.F.plain_extend_loop _, fin s4 I5 st4⟩)
  refine wpAny_bind (wpAny_rule ?_)
  refine wpAny_bind ?_
  show wpAny _ _ (updateSeq q (·.push .none) >>= fun _ => updateSeq q (·.pop)) _ _ _
  refine wpAny_bind (wpAny_updateSeq e3 rfl ?_)
  have I6 := I5.lset (f := (·.push Value.none)) (its' := [Value.none]) (ys := [.non]) (t' := s4.toks) upd_same e3 (by simp) (.cons rfl .nil) (by rw [List.length_singleton, sizeLine_eq]; decide)
  obtain ⟨z4, its4, k4, r4, hl4, e4⟩ := I6.lstM upd_same
  obtain ⟨u4, rfl, ru4⟩ := r4.one
  refine wpAny_updateSeq e4 rfl ?_ (by show 1 ≤ sizeLine; rw [sizeLine_eq]; decide) (by show 0 ≤ sizeLine + 1; exact Nat.zero_le _)
  have I7 := I6.lset (f := (·.pop)) (its := [u4]) (its' := []) (ys := []) (t' := s4.toks) upd_same e4 (by rfl) .nil (Nat.zero_le _)
  rw [upd_upd, upd_upd] at I7
  exact wpAny_pure ⟨plainId_quiet PySem.F.plain_extend_loop _, fin _ I7 (st4.at fun o e => (Heap.get?_update_other _ _ fun z => hiq z.symm).trans ((Heap.get?_update_other _ _ fun z => hiq z.symm).trans e))⟩
end
end VI
/-! ### the same for trees -/
namespace VI
open PySem PySem.Spec PyProof.Rows L2
section
variable {X : Cx} {cl : Nat → Addr} {c : Nat} {f fl : Addr} {fd fdl : FuncData} {ps psl : List Str} {k kl : Nat} {fld : Str}
def fldL (c : Nat) (fld : Str) : D → Option (List D)
  | .obj _ c' fs xs => if c' = c then ((fs.zip xs).lookup fld).bind fun d => match d with
    | .lst _ ys => some ys
    | _ => none
    else none
  | _ => none
def lenF (c : Nat) (fld : Str) : List D → Option D
  | [y] => (fldL c fld y).bind fun ys => if ys.length ≤ 100000 then some (.int (ys.length : Nat)) else none
  | _ => none
def lstF (c : Nat) (fld : Str) : List D → Option D
  | [y] => (fldL c fld y).bind fun ys => if ys.length ≤ 100000 ∧ D.plainL ys = true then some (.lst true ys) else none
  | _ => none
theorem fldL_view {B H : Hp} {d : D} {v : V} {fp : List Addr} {ys : List D} (h : fldL c fld d = some ys) (s : BLe B H) (r : Rep X.K cl B H d v fp) :
    ∃ a dx fs l zs g, v = .ref a ∧ H a = some (.ins (cl c) dx fs) ∧ fs.lookup fld = some (.ref l) ∧ SqL X.K H l zs ∧ RepL X.K cl B H ys zs g := by
  cases d <;> simp only [fldL] at h <;> try (cases h; done)
  split at h
  · rename_i hc
    subst hc
    simp only [Option.bind_eq_some_iff] at h
    obtain ⟨y, hy, h2⟩ := h
    obtain ⟨a, dx, vs, fq, e1, q1, l, q2⟩ := r.obj_view s
    obtain ⟨w, f', k1, k2, _⟩ := zip_fld l q2 hy
    split at h2
    · rename_i ys
      cases h2
      obtain ⟨a2, us, fq, e2, q3, q4⟩ := k2.lst_view s
      subst e2
      exact ⟨a, dx, _, a2, us, fq, e1, q1, k1, .of q3, q4.1⟩
    · cases h2
  · cases h
def rLenF (K : PySem.W.Frag) (C : Addr) (fld : Str) : List V → Hp → VK → Prop := fun xs H Q => ∃ a dx fs l zs, xs = [.ref a] ∧ H a = some (.ins C dx fs) ∧ fs.lookup fld = some (.ref l) ∧ SqL K H l zs ∧ zs.length ≤ 100000 ∧ Q (.int (zs.length : Nat)) H
theorem call_lenF {C : Addr} (hM : Meth X.K C "__len__" fl) (F : FnOk X.prog X.w X.K X.mg X.base CX0 kl fl fdl psl (spLn X.K C fld)) (hr : Room (kl + 1) X.A) (hb : Binds X.K fdl psl []) : CallR X (.builtin "len") (rLenF X.K C fld) := by
  intro pins s σ H xs us Q I rv h
  obtain ⟨a, dx, fs, l, zs, rfl, ha, hl, hq, hz, q⟩ := h
  obtain ⟨u, rfl, ru⟩ := rv.one
  cases ru
  exact len_own hM F rfl hr hb I ha hl hq hz fun s' t I' => ⟨V.int (zs.length : Nat), H, I', ⟨t, rfl⟩, q⟩
theorem lenF_ok : CallD X cl (rLenF X.K (cl c) fld) (lenF c fld) := by
  intro B H ds d vs fp s r h Q q
  unfold lenF at h
  split at h
  · simp only [Option.bind_eq_some_iff] at h
    obtain ⟨ys, h1, h2⟩ := h
    split at h2
    · rename_i hz
      cases h2
      obtain ⟨v, rfl, r1⟩ := repL_one r
      obtain ⟨a, dx, fs, l, zs, g, rfl, ha, hl, hq, rl⟩ := fldL_view h1 s r1
      have e := rl.length
      exact ⟨a, dx, fs, l, zs, rfl, ha, hl, hq, by rw [← e]; exact hz, q _ B H [] (New.refl s) (by rw [e]; exact rep_int) Fresh.nil⟩
    · cases h2
  · cases h
theorem lstF_ok : CallD X cl (rLstOwn X.K (cl c) fld) (lstF c fld) := by
  intro B H ds d vs fp s r h Q q
  unfold lstF at h
  split at h
  · simp only [Option.bind_eq_some_iff] at h
    obtain ⟨ys, h1, h2⟩ := h
    split at h2
    · rename_i hz
      obtain ⟨hz, hp⟩ := hz
      cases h2
      obtain ⟨v, rfl, r1⟩ := repL_one r
      obtain ⟨a, dx, fs, l, zs, g, rfl, ha, hl, hq, rl⟩ := fldL_view h1 s r1
      have e := rl.length
      have hg := RepL.plain hp rl
      subst hg
      refine ⟨a, dx, fs, l, zs, rfl, ha, hl, hq, by rw [← e]; exact hz, fun p hp' => ?_⟩
      have nn := New.own (o := .lst zs) s hp'
      refine q _ B _ [p] nn ?_ (fresh_one s hp')
      simp only [Rep]
      exact ⟨p, zs, [], rfl, upd_same, rl.news nn, rfl⟩
    · cases h2
  · cases h
end
end VI
set_option Elab.async false
set_option linter.all false
set_option maxRecDepth 100000
set_option autoImplicit false
/-! VMod: a module's constants that are tuples of texts. -/
namespace VI
open PySem PySem.Spec PyProof.Rows L2 He
def txtOf : Value → Option Str
  | .str x _ => some x
  | _ => none
def tupW (K : PySem.W.Frag) (x : Str) : Option (List (Option Str)) := match PySem.W.nsIn K mainGlobals x with
  | some (some (.ref a)) => (match K.lookup a with
    | some ⟨.type c, _, .seq its _, _⟩ => if c = "tuple" then some (its.toList.map txtOf) else none
    | _ => none)
  | _ => none
abbrev AlU : Type := AlD × List (Option (List (Option Str)))
def obsU (fa : List Fa) (fn : List DefD) (us : List (Str × List Str)) (K : PySem.W.Frag) : AlU := (obsD fa fn K, us.map fun u => tupW K u.1)
def valU (fn : List DefD) (us : List (Str × List Str)) : AlU := (valD fn, us.map fun u => some (u.2.map some))
def SaysU (fa : List Fa) (fn : List DefD) (us : List (Str × List Str)) (K : PySem.W.Frag) : Prop := obsU fa fn us K = valU fn us
def obsUG (n : Nat) (fa : List Fa) (fn : List DefD) (us : List (Str × List Str)) (g : Addr → Option Obj) : AlU := obsU fa fn us (frG g (asD g n))
def hookU (n : Nat) (fa : List Fa) (fn : List DefD) (us : List (Str × List Str)) : PySem.W.Hook where
  α := AlU
  obs := fun s => obsUG n fa fn us s.heap.get?
  val := fun _ => valU fn us
  says := fun _ h => ∃ K : PySem.W.Frag, K.In h ∧ SaysU fa fn us K
  of := fun _ _ e => ⟨_, frG_in, e⟩
  keeps := fun _ _ _ ⟨K, hK, c⟩ k => ⟨K, PySem.W.Frag.In.keeps hK k, c⟩
theorem obsUG_eq {n : Nat} {fa : List Fa} {fn : List DefD} {us : List (Str × List Str)} {g : Addr → Option Obj} {s : Shared} (h : ∀ a, g a = s.heap.get? a) : obsUG n fa fn us g = (hookU n fa fn us).obs s := by
  have e : g = s.heap.get? := funext h
  rw [e] <;> rfl
theorem vals_txt : ∀ {vs : List Value} {ts : List Str}, vs.map txtOf = ts.map some → Vals (ts.map V.str) vs
  | [], [], _ => .nil
  | [], _ :: _, h => by cases h
  | _ :: _, [], h => by cases h
  | v :: vs, t :: ts, h => by
    rw [List.map_cons, List.map_cons] at h
    injection h with h1 h2
    refine .cons ?_ (vals_txt h2)
    cases v <;> simp only [txtOf] at h1 <;> try (cases h1; done)
    cases h1
    exact ⟨_, rfl⟩
section
variable {fa : List Fa} {fn : List DefD} {us : List (Str × List Str)} {K : PySem.W.Frag} {h : Heap} {mg : Str → Option Value}
theorem SaysU.d (c : SaysU fa fn us K) : SaysD fa fn K := congrArg (fun z : AlU => z.1) c
theorem SaysU.fact (c : SaysU fa fn us K) (i : Nat) {f : Fa} (h : fa[i]? = some f := by rfl) : f.ok K = true := c.d.fact i h
theorem SaysU.def_ (c : SaysU fa fn us K) (i : Nat) {d : DefD} (h : fn[i]? = some d := by rfl) : ∃ fd, FunD K d.name d.qual d.params d.body d.scope (d.dvs K) (d.kws K) (fAd K d.at_) fd := c.d.def_ i h
theorem SaysU.tup (c : SaysU fa fn us K) (KX : K.In h) (G : h.Ns mainGlobals mg) (i : Nat) {x : Str} {ts : List Str} (hu : us[i]? = some (x, ts) := by rfl) (hl : ts.length ≤ 1000 := by decide) : ∃ a, mg x = some (.ref a) ∧ ∀ H, SqT K H a (ts.map V.str) := by
  have e : us.map (fun u => tupW K u.1) = us.map fun u => some (u.2.map some) := congrArg (fun z : AlU => z.2) c
  have e2 : (us.map (fun u => tupW K u.1))[i]? = (us.map fun u => some (u.2.map some))[i]? := by rw [e]
  rw [List.getElem?_map, List.getElem?_map, hu] at e2
  have e3 : tupW K x = some (ts.map some) := Option.some.inj e2
  unfold tupW at e3
  split at e3
  · rename_i a hn
    split at e3
    · rename_i c dd its n sl hk
      split at e3
      · rename_i hc
        subst hc
        have e4 : its.toList.map txtOf = ts.map some := Option.some.inj e3
        have hlen : its.size = ts.length := by have := congrArg List.length e4; simpa using this
        exact ⟨a, PySem.W.mg_of KX G hn, fun H => .inr ⟨_, its, n, hk, rfl, rfl, by rw [hlen, sizeLine_eq]; omega, vals_txt e4⟩⟩
      · cases e3
    · cases e3
  · cases e3
end
section
variable {X : Cx} {cl : Nat → Addr} {x : Str} {pos : Pos}
theorem repL_txt {K : PySem.W.Frag} {B H : Hp} : ∀ {ts : List Str}, RepL K cl B H (ts.map D.str) (ts.map V.str) []
  | [] => repL_nil
  | _ :: ts => repL_cons (f := []) (g := []) rep_str (repL_txt (ts := ts))
theorem ev_gtupS {ts : List Str} (hg : Gl X x) (h : ∃ a, X.mg x = some (.ref a) ∧ ∀ H, SqT X.K H a (ts.map V.str)) (hdb : (x == ("__debug__" : Str)) = false := by decide) : EvD X cl (.Name x pos) (mC (.ktup (ts.map D.str))) := by
  obtain ⟨a, hm, hs⟩ := h
  exact ev_gtup hg hm hs (fun B H => repL_txt) hdb
end
/-- every parameter is given, by place -/
theorem kbsN {K : PySem.W.Frag} {fd : FuncData} {ps : List Str} {n : Nat} {src : List Src} (hb : L2.Binds K fd ps []) (hn : ps.length = n) (hs : ∀ us : List Value, us.length = n → gsel src us [] [] = us) : KBs K fd ps n [] src [] [] :=
  ⟨⟨[], ⟨fun s us ws hK h1 h2 => by
    have e : ws = [] := List.length_eq_zero_iff.mp h2
    subst e
    rw [hs us h1]
    simpa using hb s us hK (by simpa [hn] using h1), fun r1 r2 => vals_gsel r1 r2 .nil src⟩⟩, fun _ _ _ => repL_nil⟩
end VI
set_option Elab.async false
set_option linter.all false
set_option maxRecDepth 100000
set_option autoImplicit false
/-! VX2: dicts with tuple keys: clear, list(..), isinstance. -/
namespace VI
open PySem PySem.Spec PyProof.Rows L2
section
variable {X : Cx} {pins : List (Addr × Obj)} {σ : L2.St} {H : Hp} {s : Shared} {a : Addr}
/-- d.clear(), its keys tuples -/
theorem dT_clear {Q : Value → Shared → Prop} {A : Around} {E : Value → Shared → Prop} {kvs : List (List Key × V)} (I : Inv X pins σ H s) (e : H a = some (.dT kvs)) (h : ∀ s', Inv X pins σ (upd H a (.dT [])) s' → Q .none s') : wpAny (model X.prog X.w) A (call (.builtin "dict.clear") [.ref a]) Q E s := by
  obtain ⟨z, hs, xs, r, o, es, ep, h1, h2, h3, h4, h5⟩ := (show ObjOk X.prog X.w H s.heap a (.dT kvs) from I.hok a _ e)
  have raw : s.heap.DictRaw a es ep := ⟨o, h1, h2, h3⟩
  have hsz : es.size ≤ sizeLine := by
    have l1 : es.toList.length = xs.length := by rw [h4, List.length_map]
    have l2 := Paired.length r
    rw [Array.length_toList] at l1
    omega
  refine call_meetsIn PySem.F.slot_dict_clear raw.typeIs PySem.F.entry_dict_clear (PySem.F.args_dict_clear_1 _) (meets_dict_clear_raw a) ⟨es, ep, raw, hsz, fun h' raw' hsame => h _ ?_⟩
  obtain ⟨o', g1, g2, g3⟩ := id raw'
  exact d_write (t' := s.toks) I (by rw [e]; exact True.intro) hsame ⟨_, g1⟩ ⟨Nat.zero_le _, hs, [], .nil, o', #[], ep + 1, g1, g2, g3, rfl, List.nodup_nil⟩
def rClearD : V → List V → Hp → VK → Prop := fun x vs H Q => ∃ a : Addr, x = .ref a ∧ vs = [] ∧ ((∃ kvs, H a = some (.dK kvs) ∧ Q .non (upd H a (.dK []))) ∨ ∃ kvs, H a = some (.dT kvs) ∧ Q .non (upd H a (.dT [])))
theorem mt_clearD : MtR X "dict.clear" rClearD := by
  intro pins s σ H x vs v us Q I rx rv h
  obtain ⟨a, rfl, rfl, h⟩ := h
  obtain rfl : v = Value.ref a := rx
  cases rv
  rcases h with ⟨kvs, e, q⟩ | ⟨kvs, e, q⟩
  · exact d_clear I e fun s' I' => ⟨.non, _, I', rfl, q⟩
  · exact dT_clear I e fun s' I' => ⟨.non, _, I', rfl, q⟩
end
def opClearD : D → Option (D × D) := fun x => match x with
  | .dct true _ _ => some (.non, .dct true [] [])
  | .dtt true _ _ => some (.non, .dtt true [] [])
  | _ => none
section
variable {X : Cx} {cl : Nat → Addr} {mu : List Nat} {e o : Expr} {apos cpos : Pos} {p : Pl}
theorem ve_clearD (ho : EvP X cl o p) (hb : attributeBase o "clear" X.env (eval o X.env) = eval o X.env := by rfl) (hl : (apos.endLine == cpos.line) = true := by rfl) : VE X cl mu (.Call (.Attribute o "clear" apos) [] [] cpos) (bMeth p opClearD) := by
  obtain ⟨t, pe, r⟩ := ho.use
  refine ⟨_, pe_bm0 PySem.F.plainAttrs_dict PySem.F.slot_dict_clear PySem.F.type_dict_clear mt_clearD pe hb hl, fun G σ A B H F hkp g d A' hm Q q => ?_⟩
  unfold bMeth at hm
  simp only [Option.bind_eq_some_iff, Option.map_eq_some_iff] at hm
  obtain ⟨⟨i, π, e0⟩, hz, ⟨r1, r3⟩, hop, hm⟩ := hm
  simp only at hop hm
  cases hm
  obtain ⟨d0, v, u, hA, hg, hv, hw, hq⟩ := r G σ A B H F g i π _ hz
  refine hq _ fun B1 H1 n1 => ?_
  have g1 := g.news n1
  have hw := walk_mono n1.ex hw
  unfold opClearD at hop
  split at hop
  · cases hop
    obtain ⟨a, vs, fq, e1, e2, l, nd⟩ := g1.dctN hA hg hv hw
    subst e1
    obtain ⟨F', gg⟩ := nd.put (.dK []) (.dct true [] []) [] [] rfl Own.nil List.nodup_nil (fun _ z => nomatch z) fun H' e hs => by
      simp only [Rep]
      exact ⟨a, [], [], rfl, e, rfl, repL_nil, rfl⟩
    exact ⟨.inr (.inr (.inl ⟨rfl, .inl ⟨_, e2⟩⟩)), a, rfl, rfl, .inl ⟨_, e2, q _ B1 _ F' [] gg rep_non Own.nil⟩⟩
  · cases hop
    obtain ⟨a, vs, fq, e1, e2, l, nd⟩ := g1.dttN hA hg hv hw
    subst e1
    obtain ⟨F', gg⟩ := nd.put (.dT []) (.dtt true [] []) [] [] rfl Own.nil List.nodup_nil (fun _ z => nomatch z) fun H' e hs => by
      simp only [Rep]
      exact ⟨a, [], [], rfl, e, rfl, repL_nil, rfl⟩
    exact ⟨.inr (.inr (.inl ⟨rfl, .inr ⟨_, e2⟩⟩)), a, rfl, rfl, .inr ⟨_, e2, q _ B1 _ F' [] gg rep_non Own.nil⟩⟩
  · cases hop
end
/-! ### list(d), its keys tuples -/
section
variable {K : PySem.W.Frag} {cl : Nat → Addr} {H : Hp}
theorem tell_keys : ∀ {ks : List (List Key)} {us : List V} {bs : List Addr} {B : Hp}, ks.length = us.length → BLe B H → IsKeys H (ks.zip us) bs → ∃ B', New B H B' H ∧ RepL K cl B' H (ks.map fun k => D.tup (k.map keyV)) (bs.map V.ref) []
  | [], us, bs, B, l, s, h => by
    cases us with
    | cons _ _ => simp at l
    | nil => cases h; exact ⟨B, New.refl s, repL_nil⟩
  | k :: ks, us, bs, B, l, s, h => by
    cases us with
    | nil => simp at l
    | cons u us =>
      cases h with
      | @cons _ b _ bs h1 h2 =>
        have n1 := New.tell s h1
        obtain ⟨B2, n2, r2⟩ := tell_keys (ks := ks) (us := us) (bs := bs) (by simpa using l) n1.sub h2
        refine ⟨B2, n1.trans n2, repL_cons (f := []) (g := []) ?_ r2⟩
        have r1 : Rep K cl (upd B b (.tup (k.map kV))) H (.tup (k.map keyV)) (.ref b) [] := by
          simp only [Rep]
          exact ⟨b, _, rfl, upd_same, repL_key⟩
        exact r1.news n2
end
def lstDT : List D → Option D
  | [.dtt _ ks _] => some (.lst true (ks.map fun k => .tup (k.map keyV)))
  | _ => none
theorem lstDT_ok {X : Cx} {cl : Nat → Addr} : CallD X cl (fun xs H Q => ∃ d kvs, xs = [V.ref d] ∧ Rd H d (.dT kvs) ∧ ∀ p bs, H p = none → IsKeys H kvs bs → Q (.ref p) (upd H p (.lst (bs.map V.ref)))) lstDT := by
  intro B H ds d vs fp s r0 hg Q q
  unfold lstDT at hg
  split at hg
  · cases hg
    obtain ⟨v, e0, r⟩ := repL_one r0; subst e0
    obtain ⟨a, us, fq, e1, q1, l, q2⟩ := r.dtt_view s
    refine ⟨a, _, by rw [e1], q1, fun p bs hp hk => ?_⟩
    obtain ⟨B1, n1, r1⟩ := tell_keys (K := X.K) (cl := cl) (l.trans q2.length) s hk
    exact new_list_q n1.sub r1 (fun w B' H' fp n rw_ f => q w B' H' fp (n1.trans n) rw_ f) p hp
  · cases hg
end VI
set_option Elab.async false
set_option linter.all false
set_option maxRecDepth 100000
set_option autoImplicit false
/-! VOwn3: list(o), for .. in o, where o's __iter__ hands back iter(a field's dict.items()). -/
namespace VI
open PySem PySem.Spec PyProof.Rows L2
/-- an iterator of a dict's items, at its start -/
def ItmO (d it : Addr) (n ep : Nat) : HO := .ext fun h => IsItemIter h it d 0 n ep .none .none
theorem itmO_ok {P : Program} {w : World} {H : Hp} {h : Heap} {d it : Addr} {n ep : Nat} (e : IsItemIter h it d 0 n ep .none .none) : ObjOk P w H h it (ItmO d it n ep) :=
  ⟨e, ⟨_, e⟩, fun h1 h2 x k => k _ x⟩
/-- what such an __iter__ promises -/
def spIm (K : PySem.W.Frag) (C : Addr) (fld : Str) (n : Nat) : Sp := fun vs H Q _ => ∃ (a dx : Addr) (fs : List (Str × V)) (d : Addr) (od : Obj) (kvs : List (Key × V)) (es : Array DictEntry) (ep : Nat), vs = [.ref a] ∧ H a = some (.ins C dx fs) ∧ fs.lookup fld = some (.ref d) ∧ H d = some (.frz od (.dK kvs)) ∧ od.data = .dict es ep ∧
  ∀ it, H it = none → n ≤ it → Q (.ref it) (upd H it (ItmO d it kvs.length ep))
def tItm (n : Nat) (te : TE) : TE := fun σ H Q => te σ H fun x H1 => ∃ (d : Addr) (od : Obj) (kvs : List (Key × V)) (es : Array DictEntry) (ep : Nat), x = .ref d ∧ H1 d = some (.frz od (.dK kvs)) ∧ od.data = .dict es ep ∧ ∀ it, H1 it = none → n ≤ it → Q (.ref it) (upd H1 it (ItmO d it kvs.length ep))
section
variable {X : Cx} {C f : Addr} {fld : Str} {e : Expr} {te : TE} {p apos cpos pos p1 p3 p4 p5 p6 : Pos}
theorem call_iter_view {prog : Program} {w : World} {A : Around} {E Q : Value → Shared → Prop} {s : Shared} {v : Addr}
    (h : wpAny (model prog w) A.in1 (pyIter (.ref v)) (fun r s' => Q r s') E s) : wpAny (model prog w) A (call (.builtin "iter") [.ref v]) Q E s := by
  refine Calls.call_function_entry (by decide +kernel) (by decide +kernel) PySem.W.kdk_entry_iter (PySem.W.kdk_args_iter _) ?_
  unfold Builtin.«iter»
  refine wpAny_bind (m := someArgs "iter" 1 2 _) (wpAny_of_eq (a := [Value.ref v]) (by first | rfl | kernel_rfl!) ?_)
  show wpAny _ _ (pyIter (.ref v) >>= _) _ _ _
  refine wpAny_bind (wpAny_mono h (fun r s' hr => ?_) fun _ _ z => z)
  exact wpAny_pure ⟨_, rfl, hr⟩
theorem pe_iterItems (he : PE X e te) (hg : Gl X "iter") (hm : X.mg "iter" = none) (hbase : attributeBase e "items" X.env (eval e X.env) = eval e X.env := by rfl) (hline : (apos.endLine == cpos.line) = true := by rfl)
    (hs : starEach [.Call (.Attribute e "items" apos) [] [] cpos] X.env = (false, eval (.Call (.Attribute e "items" apos) [] [] cpos) X.env) :: starEach [] X.env := by rfl) :
    PE X (.Call (.Name "iter" p) [.Call (.Attribute e "items" apos) [] [] cpos] [] pos) (tItm X.base.objs.size te) := by
  refine ⟨fun pins s σ H Q I hq => ?_⟩
  refine wpAny_Call_Name_kw (ld_blt I hg hm PyProof.Rows.boot_iter ?_)
  refine PyProof.Rows.callWith_builtin1 ?_ hs rfl
  rw [hs]
  show wpAny _ _ (spliced ((false, eval (.Call (.Attribute e "items" apos) [] [] cpos) X.env) :: backTo pos (starEach [] X.env))) _ _ s
  refine Calls.spliced_cons ?_
  refine wpAny_Call_method (T := "dict") (id := "dict.items") hbase rfl hline F.plainAttrs_dict F.slot_dict_items F.type_dict_items (thn (he.run pins s σ H _ I hq) fun u s1 ⟨x, H1, I1, rx, d, o, kvs, es, ep, ex, hd, hod, q⟩ => ?_)
  subst ex
  obtain rfl : u = Value.ref d := rx
  obtain ⟨hs0, hgd, hx, es', ep', vs, hdt, hsz, kv, hm⟩ := I1.frzK hd
  rw [hod] at hdt
  cases hdt
  have hl : kvs.length = vs.length := Paired.length kv
  refine ⟨hm.dictOf.typeIs, hm.dictOf.mapOf.noDict, ?_⟩
  have k1 : ∀ b ob, s1.heap.get? b = some ob → (s1.heap.push { cls := .type "dict_items", data := .fields #[.ref d] }).get? b = some ob := fun b ob q => Heap.get?_push_of_some _ q
  show wpAny _ _ (callWith cpos (.builtin "dict.items") [.ref d] [] []) _ X.xe s1
  refine method_meetsIn F.slot_dict_items F.entry_dict_items rfl (PySem.evalArgs_none ⟨rfl, hm.dictOf.typeIs, F.args_dict_items_1 _, _, meets_dict_items (mixKind X.prog X.w) d hs0, ⟨vs, hm.dictOf⟩, ?_⟩)
  refine Calls.spliced_nil ?_
  refine call_iter_view (wpAny_pyIter_items (d := d) (knd := mixKind X.prog X.w) ⟨_, Heap.get?_push_size _ rfl, rfl, rfl⟩ (hm.push _) ?_)
  refine ⟨.ref (s1.heap.push { cls := .type "dict_items", data := .fields #[.ref d] }).objs.size, _, I1.laid (t' := s1.toks) (a := (s1.heap.push { cls := .type "dict_items", data := .fields #[.ref d] }).objs.size) (fun b ob q => Heap.get?_push_of_some _ (k1 b ob q)) (by rw [Heap.size_push]; omega) (itmO_ok (n := kvs.length) (ep := ep) (d := d) ?_), rfl, q _ ?_ ?_⟩
  · rw [hl]
    exact Heap.get?_push_size _ rfl
  · exact I1.hok.fresh (by rw [Heap.size_push]; omega)
  · have h1 := I1.sz
    have h2 := I1.ok.bsz
    rw [Heap.size_push]; omega
theorem itm_pss (hC : Cls X.K C) (hN : NoAttr X.K C fld) (hg : Gl X "iter") (hm : X.mg "iter" = none) (hv : PE X e (tVar 0)) (hb : attributeBase e fld X.env (eval e X.env) = eval e X.env := by rfl)
    (hb2 : attributeBase (.Attribute e fld p3) "items" X.env (eval (.Attribute e fld p3) X.env) = eval (.Attribute e fld p3) X.env := by rfl) (hl : (p4.endLine == p5.line) = true := by rfl)
    (hs : starEach [.Call (.Attribute (.Attribute e fld p3) "items" p4) [] [] p5] X.env = (false, eval (.Call (.Attribute (.Attribute e fld p3) "items" p4) [] [] p5) X.env) :: starEach [] X.env := by rfl) {vs : List V} {H : Hp} {Q : VK} {E : XK} (h : spIm X.K C fld X.base.objs.size vs H Q E) :
    ∃ t, PSs X [.Return (some (.Call (.Name "iter" p1) [.Call (.Attribute (.Attribute e fld p3) "items" p4) [] [] p5] [] p6)) p] t ∧ t { nx := fun _ H' => Q .non H', rt := Q } (L2.start ["self"] vs) H := by
  refine ⟨_, pss_one (ps_ret (pe_iterItems (pe_fld hv hb) hg hm hb2 hl hs)), ?_⟩
  obtain ⟨a, dx, fs, d, od, kvs, es, ep, rfl, ha, hl, hd, hod, q⟩ := h
  exact ⟨.ref a, rfl, a, C, dx, fs, .ref d, rfl, ha, hC, hN, hl, d, od, kvs, es, ep, rfl, hd, hod, q⟩
end
section
variable {X : Cx} {pins : List (Addr × Obj)} {σ : L2.St} {H : Hp} {s : Shared} {C f : Addr} {fd : FuncData} {ps : List Str} {k : Nat} {fld : Str}
theorem run_itm {A1 : Around} {R : Value → Shared → Prop} {a d dx : Addr} {fs : List (Str × V)} {od : Obj} {kvs : List (Key × V)} {es : Array DictEntry} {ep : Nat} (hA : A1.frames = X.A.frames) (F : ∀ base, FnOk X.prog X.w X.K X.mg base CX0 k f fd ps (spIm X.K C fld base.objs.size)) (hr : Room k A1) (hb : Binds X.K fd ps [])
    (I : Inv X pins σ H s) (ha : H a = some (.ins C dx fs)) (hl : fs.lookup fld = some (.ref d)) (hd : H d = some (.frz od (.dK kvs))) (hod : od.data = .dict es ep)
    (h : ∀ it s', Inv X pins σ (upd H it (ItmO d it kvs.length ep)) s' → H it = none → s.heap.objs.size ≤ it → R (.ref it) s') : wpAny (model X.prog X.w) A1 (call (.ref f) [.ref a]) R X.xe s := by
  have hsz : (padB X.base s.heap).objs.size = s.heap.objs.size := PySem.W.hideAll_size _ _
  have hsp : spIm X.K C fld (padB X.base s.heap).objs.size [.ref a] H (fun v H' => ∃ it, v = .ref it ∧ H it = none ∧ s.heap.objs.size ≤ it ∧ H' = upd H it (ItmO d it kvs.length ep)) E0 :=
    ⟨a, dx, fs, d, od, kvs, es, ep, rfl, ha, hl, hd, hod, fun it n1 n2 => ⟨it, rfl, n1, by rw [hsz] at n2; exact n2, rfl⟩⟩
  have r : Vals [V.ref a] [Value.ref a] := .cons rfl .nil
  have hlen : ([Value.ref a] : List Value).length = ps.length := (F _).len _ _ _ _ hsp
  have hb' : BindsTo s fd ⟨[.ref a], []⟩ (ps.zip [.ref a]) := by simpa using hb s [.ref a] I.kIn (by simpa using hlen)
  refine wpAny_call (codeAny_mono ((F _).run A1 X.stack s H ⟨[.ref a], []⟩ [.ref a] [.ref a] _ E0 hr (env0_pad hA I) hb' r hsp) fun rr s' hq' => ?_)
  rcases rr with ex | fl
  · exact False.elim hq'
  · cases fl
    case ret u =>
      obtain ⟨v, H', I', rv, it, rfl, n1, n2, rfl⟩ := I.after hq'
      cases rv
      exact h it s' I' n1 n2
    all_goals exact False.elim hq'
theorem itm_own {Q : Value → Shared → Prop} {a d dx : Addr} {fs : List (Str × V)} {od : Obj} {kvs : List (Key × V)} {es : Array DictEntry} {ep : Nat} (hM : Meth X.K C "__iter__" f) (F : ∀ base, FnOk X.prog X.w X.K X.mg base CX0 k f fd ps (spIm X.K C fld base.objs.size)) {A1 : Around} (hA : A1.frames = X.A.frames) (hr : Room k A1) (hb : Binds X.K fd ps [])
    (I : Inv X pins σ H s) (ha : H a = some (.ins C dx fs)) (hl : fs.lookup fld = some (.ref d)) (hd : H d = some (.frz od (.dK kvs))) (hod : od.data = .dict es ep)
    (h : ∀ it s', Inv X pins σ H s' → IsItemIter s'.heap it d 0 kvs.length ep .none .none → FpOk X pins H it → Q (.ref it) s') : wpAny (model X.prog X.w) A1 (pyIter (.ref a)) Q X.xe s := by
  obtain ⟨mA, J, _⟩ := ins_get I.hok ha
  obtain ⟨oj, J, _⟩ := J.look
  obtain ⟨m, hF⟩ := I.fr
  refine PySem.W.owit_iter hF I.ok.mod.kin J hM.at_ hM.fn (run_itm hA F hr hb I ha hl hd hod fun it s' I' n1 n2 => ?_)
  have hit : IsItemIter s'.heap it d 0 kvs.length ep .none .none := (I'.hok it _ upd_same).1
  have hdr := ItX.inv_drop I' upd_same
  have hf := ItX.inv_fp I' upd_same (Nat.le_trans I.sz n2)
  rw [ItX.dropH_upd n1] at hdr hf
  unfold PySem.W.OwitIt
  refine wpAny_specialOf (T := "dict_itemiterator") (r := some (.builtin "dict_itemiterator.__next__")) ⟨_, hit, rfl⟩ ?_ ?_
  · exact PySem.F.slot_dict_itemiterator_next.lookup
  · exact h it s' hdr hit hf
theorem itm_loop {A1 : Around} {q it d : Addr} {od : Obj} {kvs : List (Key × V)} {es : Array DictEntry} {ep : Nat} {Rs : Result → Shared → Prop} (hh : A1.handled = none) (hd : H d = some (.frz od (.dK kvs))) (hod : od.data = .dict es ep) (hqn : H q = none) (hiq : it ≠ q) (hf : FpOk X pins H it)
    (hz : kvs.length ≤ 100000) (hdone : ∀ Hn as s, Inv X pins σ (upd Hn q (.lst (as.map V.ref))) s → (∀ b o, H b = some o → Hn b = some o) → Hn q = none → (∀ b ∈ as, H b = none) → Paired (fun (t : Addr) (p : Key × V) => Hn t = some (.tup [kV p.1, p.2])) as kvs → Rs (.ok (.ret .none)) s) :
    ∀ (k i : Nat) (Hn : Hp) (as : List Addr) (s : Shared), kvs.length - i = k → i ≤ kvs.length → Inv X pins σ (upd Hn q (.lst (as.map V.ref))) s → (∀ b o, H b = some o → Hn b = some o) → Hn q = none → Hn it = none → (∀ b ∈ as, H b = none) → Paired (fun (t : Addr) (p : Key × V) => Hn t = some (.tup [kV p.1, p.2])) as (kvs.take i) →
      PySem.W.KdxSt s.heap it d q i kvs.length ep → codeAny (model X.prog X.w) A1 (.builtin "list.extend.loop" ⟨[.ref q, .ref it, .none], []⟩) Rs s := by
  have hdq : d ≠ q := fun z => by rw [z, hqn] at hd; cases hd
  intro k
  induction k with
  | zero =>
    intro i Hn as s hk hi I le hnq hni hnew pr st
    have e : i = kvs.length := by omega
    subst e
    rw [List.take_length] at pr
    have hdn : upd Hn q (.lst (as.map V.ref)) d = some (.frz od (.dK kvs)) := by rw [upd_ne hdq]; exact le _ _ hd
    obtain ⟨hs0, hgd, hx, es', ep', vs, hdt, hsz, kv, hm⟩ := I.frzK hdn
    rw [hod] at hdt
    cases hdt
    have hl : kvs.length = vs.length := Paired.length kv
    rw [hl] at st
    refine codeAny_builtin PySem.F.entry_extend_loop ?_
    rw [Around.under_plainId PySem.F.plain_extend_loop _]
    show wpAny _ A1.in1 (pyNext (.ref it) >>= _) _ _ s
    refine wpAny_bind (PySem.W.kdx_done (A := A1.in1) hh st hm (List.getElem?_eq_none (by omega)) fun h' eb => wpAny_pure (hdone Hn as _ (I.turned (t' := s.toks) (fun b o hb e => eb b o hb e) (by rw [upd_ne hiq]; exact hni) hf.2.1 hf.2.2.2.1 hf.2.2.2.2.1 hf.2.2.2.2.2) le hnq hnew pr))
  | succ k ih =>
    intro i Hn as s hk hi I le hnq hni hnew pr st
    have hi' : i < kvs.length := by omega
    have hdn : upd Hn q (.lst (as.map V.ref)) d = some (.frz od (.dK kvs)) := by rw [upd_ne hdq]; exact le _ _ hd
    obtain ⟨hs0, hgd, hx, es', ep', vs, hdt, hsz, kv, hm⟩ := I.frzK hdn
    rw [hod] at hdt
    cases hdt
    have hl : kvs.length = vs.length := Paired.length kv
    obtain ⟨⟨ky, v⟩, hkv⟩ : ∃ p, kvs[i]? = some p := ⟨kvs[i], List.getElem?_eq_getElem hi'⟩
    obtain ⟨u, hu, ru⟩ := kv_get kv hkv
    have hal : as.length = i := by have := Paired.length pr; simp at this; omega
    obtain ⟨z, jts0, n0, r20, hl0, e0⟩ := I.lstM upd_same
    have st' : PySem.W.KdxSt s.heap it d q i vs.length ep := by rw [← hl]; exact st
    refine codeAny_builtin PySem.F.entry_extend_loop ?_
    rw [Around.under_plainId PySem.F.plain_extend_loop _]
    show wpAny _ A1.in1 (pyNext (.ref it) >>= _) _ _ s
    refine wpAny_bind (PySem.W.kdx_item st' (Heap.lt_size e0) hm hu fun key h' hkey hst2 hT hsz2 hkp => ?_)
    have hfq : ∀ b ∈ [it], FpOk X pins (upd Hn q (.lst (as.map V.ref))) b := fun b hb => by
      have : b = it := by simpa using hb
      subst this
      exact ⟨by rw [upd_ne hiq]; exact hni, hf.2⟩
    obtain ⟨T, hTe⟩ : ∃ T, s.heap.objs.size = T := ⟨_, rfl⟩
    have I1 : Inv X pins σ (upd (upd Hn q (.lst (as.map V.ref))) s.heap.objs.size (.tup [kV ky, v])) { s with heap := h' } :=
      I.turnedNew (t' := s.toks) (ch := [it]) (fun b ob hb e => hkp b ob (by simpa using hb) e) hfq (Nat.le_refl _) ⟨by show 2 ≤ sizeLine; decide, [key, u], .cons (relV_key (show keyIs ky key = true from hkey)) (.cons ru .nil), ⟨_, hT, rfl, _, rfl⟩⟩
    have hTn : upd Hn q (.lst (as.map V.ref)) s.heap.objs.size = none := I.hok.fresh (Nat.le_refl _)
    have hTq : q ≠ s.heap.objs.size := fun z => by rw [← z, upd_same] at hTn; cases hTn
    have hTn2 : Hn s.heap.objs.size = none := by rwa [upd_ne (Ne.symm hTq)] at hTn
    have hTi : it ≠ s.heap.objs.size := by
      rcases st with ⟨_, _, _, w⟩ | ⟨_, _, _, _, _, w, _⟩ <;> exact Nat.ne_of_lt (Heap.lt_size w)
    have heq : upd (upd Hn q (.lst (as.map V.ref))) s.heap.objs.size (.tup [kV ky, v]) = upd (upd Hn s.heap.objs.size (.tup [kV ky, v])) q (.lst (as.map V.ref)) := by
      funext b
      by_cases b1 : b = q
      · subst b1; rw [upd_ne hTq, upd_same, upd_same]
      · by_cases b2 : b = s.heap.objs.size
        · subst b2; rw [upd_same, upd_ne b1, upd_same]
        · rw [upd_ne b2, upd_ne b1, upd_ne b1, upd_ne b2]
    rw [heq] at I1
    show wpAny _ A1.in1 (updateSeq q (·.push (Value.ref s.heap.objs.size)) >>= _) _ _ _
    obtain ⟨z, jts, n, r2, hl2, e⟩ := I1.lstM upd_same
    have hjl : jts.length = i := by rw [← hl2, List.length_map, hal]
    refine wpAny_bind (wpAny_updateSeq e rfl (wpAny_pure ⟨plainId_quiet PySem.F.plain_extend_loop _, ?_⟩) (by rw [List.size_toArray, sizeLine_eq]; omega) (by show (jts.toArray.push _).size ≤ sizeLine + 1; rw [Array.size_push, List.size_toArray, sizeLine_eq]; omega))
    have I2 := I1.lset (f := (·.push (Value.ref s.heap.objs.size))) (its' := jts ++ [Value.ref s.heap.objs.size]) (t' := s.toks) (ys := (as ++ [s.heap.objs.size]).map V.ref) upd_same e (by simp) (by
      rw [List.map_append]
      exact r2.append (.cons rfl .nil)) (by rw [List.length_map, List.length_append, List.length_singleton, sizeLine_eq]; omega)
    rw [upd_upd] at I2
    refine ih (i + 1) (upd Hn s.heap.objs.size (.tup [kV ky, v])) (as ++ [s.heap.objs.size]) _ (by omega) hi' I2 (fun b o hb => ?_) ?_ ?_ (fun b hb => ?_) ?_ ?_
    · rw [upd_ne (fun z => by rw [z] at hb; rw [le _ _ hb] at hTn2; cases hTn2)]; exact le b o hb
    · rw [upd_ne hTq]; exact hnq
    · rw [upd_ne hTi]; exact hni
    · rcases List.mem_append.mp hb with hb | hb
      · exact hnew b hb
      · have : b = s.heap.objs.size := by simpa using hb
        subst this
        cases hz2 : H s.heap.objs.size with
        | none => rfl
        | some o => rw [le _ _ hz2] at hTn2; cases hTn2
    · have ht : kvs.take (i + 1) = kvs.take i ++ [(ky, v)] := by rw [List.take_succ, hkv]; rfl
      rw [ht]
      refine Paired.snoc (Paired.mapP pr fun t p ht => ?_) upd_same
      rw [upd_ne (fun z => by rw [z, hTn2] at ht; cases ht)]; exact ht
    · rw [hl]
      exact hst2.keep (fun b o hb e2 => (Heap.get?_update_other _ _ (Ne.symm hb)).trans e2) hiq
/-- list(o) -/
def rLstItm (C : Addr) (fld : Str) : List V → Hp → VK → Prop := fun xs H Q => ∃ (a dx : Addr) (fs : List (Str × V)) (d : Addr) (kvs : List (Key × V)), xs = [.ref a] ∧ H a = some (.ins C dx fs) ∧ fs.lookup fld = some (.ref d) ∧ Rd H d (.dK kvs) ∧ kvs.length ≤ 100000 ∧
  ∀ (Hn : Hp) (q : Addr) (ts : List Addr), (∀ b o, H b = some o → Hn b = some o) → Hn q = none → (∀ t ∈ ts, H t = none) → Paired (fun (t : Addr) (p : Key × V) => Hn t = some (.tup [kV p.1, p.2])) ts kvs → Q (.ref q) (upd Hn q (.lst (ts.map V.ref)))
theorem none_hint {A1 : Around} {Q : Bool → Shared → Prop} {a dx : Addr} {fs : List (Str × V)} (hL : NoAttr X.K C "__len__") (hH : NoAttr X.K C "__length_hint__") (I : Inv X pins σ H s) (ha : H a = some (.ins C dx fs)) (h : Q true s) : wpAny (model X.prog X.w) A1 (Builtin.List.listLengthHint (.ref a)) Q X.xe s := by
  obtain ⟨mA, J, _⟩ := ins_get I.hok ha
  obtain ⟨oj, J, _⟩ := J.look
  have l1 := PySem.W.looks_findIn (M := model X.prog X.w) I.kIn hL
  have l2 := PySem.W.looks_findIn (M := model X.prog X.w) I.kIn hH
  unfold Builtin.List.listLengthHint
  refine wpAny_bind (wpAny_bind (J.type.here (l1.here ?_)))
  refine PySem.W.KFB.if_not rfl ?_
  dsimp only
  refine PySem.W.KFB.if_not rfl ?_
  refine wpAny_bind (wpAny_bind (J.type.here (l2.here ?_)))
  exact wpAny_pure h
theorem lst_core {P : Value → Shared → Prop} {a d dx : Addr} {fs : List (Str × V)} {od : Obj} {kvs : List (Key × V)} (hcalm : X.calm = true) (hL : NoAttr X.K C "__len__") (hH : NoAttr X.K C "__length_hint__") (hMI : Meth X.K C "__iter__" f) (FI : ∀ base, FnOk X.prog X.w X.K X.mg base CX0 k f fd ps (spIm X.K C fld base.objs.size)) (hr : Room (k + 2) X.A) (hb : Binds X.K fd ps [])
    (I : Inv X pins σ H s) (ha : H a = some (.ins C dx fs)) (hl : fs.lookup fld = some (.ref d)) (hd : H d = some (.frz od (.dK kvs))) (hz : kvs.length ≤ 100000)
    (h : ∀ s' Hn q (ts : List Addr), Inv X pins σ (upd Hn q (.lst (ts.map V.ref))) s' → (∀ b o, H b = some o → Hn b = some o) → Hn q = none → (∀ t ∈ ts, H t = none) → Paired (fun (t : Addr) (p : Key × V) => Hn t = some (.tup [kV p.1, p.2])) ts kvs → P (.ref q) s') :
    wpAny (model X.prog X.w) X.A (call (.type "list") [.ref a]) P X.xe s := by
  obtain ⟨_, _, _, es, ep, _, hod, _⟩ := I.frzK hd
  refine callType_codes (Q₁ := fun obj s₁ => obj = .ref s.heap.objs.size ∧ s₁ = { s with heap := s.heap.push { cls := .type "list", data := .seq #[] } }) PySem.F.called_list (PySem.F.typeCall_list_1 _) PySem.F.entry_list_init
    (code_list_new _ ⟨rfl, rfl⟩) fun obj s₁ h₁ => ?_
  obtain ⟨rfl, rfl⟩ := h₁
  have hS : (s.heap.push { cls := .type "list", data := .seq #[] }).get? s.heap.objs.size = some { cls := .type "list", data := .seq #[] } := Heap.get?_push_size _ rfl
  refine ⟨⟨_, hS, rfl⟩, PySem.F.args_list_init_2 _ _, ?_⟩
  have fr : H s.heap.objs.size = none := I.hok.fresh (Nat.le_refl _)
  obtain ⟨q, hqe⟩ : ∃ q, s.heap.objs.size = q := ⟨_, rfl⟩
  have I1 : Inv X pins σ (upd H s.heap.objs.size (.lst [])) { s with heap := s.heap.push { cls := .type "list", data := .seq #[] } } := I.lnew (its := []) (t' := s.toks) .nil (Nat.zero_le _)
  show wpAny _ _ (do let old ← Builtin.List.listItems (.ref s.heap.objs.size); Builtin.List.listUpdate (.ref s.heap.objs.size) (fun _ => #[]); letGo old.toList.reverse; Builtin.List.listExtendWith (.ref s.heap.objs.size) (.ref a) .none) _ _ _
  refine wpAny_bind ?_
  unfold Builtin.List.listItems
  refine wpAny_bind (wpAny_seqItems hS rfl (wpAny_pure ?_))
  show wpAny _ _ (updateSeq s.heap.objs.size (fun _ => #[]) >>= fun _ => letGo (#[] : Array Value).toList.reverse >>= fun _ => Builtin.List.listExtendWith (.ref s.heap.objs.size) (.ref a) .none) _ _ _
  refine wpAny_bind (wpAny_updateSeq hS rfl ?_)
  have I2 := I1.lset (f := fun _ => #[]) (its := []) (its' := []) (ys := []) (t' := s.toks) upd_same hS rfl .nil (Nat.zero_le _)
  rw [upd_upd] at I2
  refine wpAny_bind (wpAny_letGo ?_)
  have ha2 : upd H s.heap.objs.size (.lst []) a = some (.ins C dx fs) := by rw [upd_ne (ne_of_none ha fr)]; exact ha
  have hd2 : upd H s.heap.objs.size (.lst []) d = some (.frz od (.dK kvs)) := by rw [upd_ne (ne_of_none hd fr)]; exact hd
  have fr' : H q = none := by rw [← hqe]; exact fr
  rw [hqe] at *
  clear hS
  generalize ({ s with heap := _ } : Shared) = s2 at I2
  have hne : q ≠ a := ne_of upd_same ha2 (fun z => nomatch z)
  obtain ⟨mA, J, _⟩ := ins_get I2.hok ha2
  obtain ⟨oj, J, _⟩ := J.look
  unfold Builtin.List.listExtendWith
  refine wpAny_bind (J.type.here ?_)
  have h1 : Builtin.List.listSameRef (.ref q) (.ref a) = false := by simp [Builtin.List.listSameRef, hne]
  have h2 : (Value.ref C == Value.type "list") = false := rfl
  have h3 : (Value.ref C == Value.type "tuple") = false := rfl
  simp only [h1, h2, h3, Bool.or_false, Bool.false_eq_true, if_false]
  refine wpAny_bind (itm_own hMI FI rfl hr.in1.in1 hb I2 ha2 hl hd2 hod fun it s3 I3 st hf => ?_)
  have hiq : it ≠ q := fun z => by have := hf.1; rw [z, upd_same] at this; cases this
  have hf0 : FpOk X pins H it := ⟨by have := hf.1; rwa [upd_ne hiq] at this, hf.2⟩
  refine wpAny_bind (wpAny_holding (none_hint hL hH I3 ha2 ?_))
  have hcd : (X.A.in1).handled = none := I2.ok.hd hcalm
  have fin : ∀ s' : Shared, Inv X pins σ (upd H q (.lst [])) s' → IsItemIter s'.heap it d 0 kvs.length ep .none .none → codeAny (model X.prog X.w) X.A.in1 (.builtin "list.extend.loop" ⟨[.ref q, .ref it, .none], []⟩) (wants (fun r s₂ => r = .none ∧ P (.ref q) s₂) X.xe) s' := fun s' I' st' =>
    itm_loop (A1 := X.A.in1) hcd hd hod fr' hiq hf0 hz (fun Hn as s'' I'' k1 k2 k3 k4 => ⟨rfl, h s'' Hn q as I'' k1 k2 k3 k4⟩) _ 0 H [] s' rfl (Nat.zero_le _) I' (fun _ _ e => e) fr' hf0.1 (fun _ z => nomatch z) .nil (.inl ⟨rfl, _, _, st'⟩)
  obtain ⟨z, its, kk, r3, hl3, e3⟩ := I3.lstM upd_same
  cases r3
  refine wpAny_ite_split (fun _ => ?_) (fun _ => wpAny_pure ⟨plainId_quiet PySem.F.plain_extend_loop _, fin s3 I3 st⟩)
  refine wpAny_bind (wpAny_rule ?_)
  refine wpAny_bind ?_
  show wpAny _ _ (updateSeq q (·.push .none) >>= fun _ => updateSeq q (·.pop)) _ _ _
  refine wpAny_bind (wpAny_updateSeq e3 rfl ?_)
  have I6 := I3.lset (f := (·.push Value.none)) (its' := [Value.none]) (ys := [.non]) (t' := s3.toks) upd_same e3 (by simp) (.cons rfl .nil) (by rw [List.length_singleton, sizeLine_eq]; decide)
  obtain ⟨z4, its4, k4, r4, hl4, e4⟩ := I6.lstM upd_same
  obtain ⟨u4, rfl, ru4⟩ := r4.one
  refine wpAny_updateSeq e4 rfl ?_ (by show 1 ≤ sizeLine; rw [sizeLine_eq]; decide) (by show 0 ≤ sizeLine + 1; exact Nat.zero_le _)
  have I7 := I6.lset (f := (·.pop)) (its := [u4]) (its' := []) (ys := []) (t' := s3.toks) upd_same e4 (by rfl) .nil (Nat.zero_le _)
  rw [upd_upd, upd_upd] at I7
  refine wpAny_pure ⟨plainId_quiet PySem.F.plain_extend_loop _, fin _ I7 ?_⟩
  exact (Heap.get?_update_other _ _ fun z => hiq z.symm).trans ((Heap.get?_update_other _ _ fun z => hiq z.symm).trans st)
theorem call_lstItm (hcalm : X.calm = true) (hL : NoAttr X.K C "__len__") (hH : NoAttr X.K C "__length_hint__") (hMI : Meth X.K C "__iter__" f) (FI : ∀ base, FnOk X.prog X.w X.K X.mg base CX0 k f fd ps (spIm X.K C fld base.objs.size)) (hr : Room (k + 2) X.A) (hb : Binds X.K fd ps []) : CallR X (.type "list") (rLstItm C fld) := by
  intro pins s σ H xs us Q I rv h
  obtain ⟨a, dx, fs, d, kvs, rfl, ha, hl, hd, hz, qq⟩ := h
  obtain ⟨u, rfl, ru⟩ := rv.one
  cases ru
  rcases hd with hd | ⟨od, hd⟩
  · obtain ⟨od, I1⟩ := I.lock hd True.intro
    have hda : a ≠ d := fun z => by rw [z, hd] at ha; cases ha
    refine lst_core hcalm hL hH hMI FI hr hb I1 (by rw [upd_ne hda]; exact ha) hl upd_same hz fun s' Hn q ts I2 k1 k2 k3 k4 => ?_
    have hdn : Hn d = some (.frz od (.dK kvs)) := k1 _ _ upd_same
    have hdq : d ≠ q := fun z => by rw [z, k2] at hdn; cases hdn
    have I3 := I2.unlock (u := .dK kvs) (by rw [upd_ne hdq]; exact hdn) (I.nofrz hd True.intro)
    have heq : upd (upd Hn q (.lst (ts.map V.ref))) d (.dK kvs) = upd (upd Hn d (.dK kvs)) q (.lst (ts.map V.ref)) := by
      funext b
      by_cases b1 : b = q
      · subst b1; rw [upd_ne (Ne.symm hdq), upd_same, upd_same]
      · by_cases b2 : b = d
        · subst b2; rw [upd_same, upd_ne b1, upd_same]
        · rw [upd_ne b2, upd_ne b1, upd_ne b1, upd_ne b2]
    rw [heq] at I3
    refine ⟨.ref q, _, I3, rfl, qq _ q ts (fun b o hb => ?_) (by rw [upd_ne (Ne.symm hdq)]; exact k2) (fun t ht => ?_) (Paired.mapP k4 fun t p ht => ?_)⟩
    · by_cases b2 : b = d
      · subst b2; rw [hd] at hb; cases hb; exact upd_same
      · rw [upd_ne b2]; exact k1 b o (by rw [upd_ne b2]; exact hb)
    · have := k3 t ht
      by_cases b2 : t = d
      · subst b2; rw [upd_same] at this; cases this
      · rwa [upd_ne b2] at this
    · rw [upd_ne (fun z => by rw [z, hdn] at ht; cases ht)]; exact ht
  · exact lst_core hcalm hL hH hMI FI hr hb I ha hl hd hz fun s' Hn q ts I2 k1 k2 k3 k4 => ⟨.ref q, _, I2, rfl, qq Hn q ts k1 k2 k3 k4⟩
end
/-! ### the same for trees -/
section
variable {X : Cx} {cl : Nat → Addr} {c : Nat} {f : Addr} {fd : FuncData} {ps : List Str} {k : Nat} {fld : Str}
def fldK (c : Nat) (fld : Str) : D → Option (List Key × List D)
  | .obj _ c' fs xs => if c' = c then ((fs.zip xs).lookup fld).bind fun d => match d with
    | .dct _ ks ys => some (ks, ys)
    | _ => none
    else none
  | _ => none
/-- the items' tuples -/
def itmsD (ks : List Key) (ys : List D) : List D := (ks.zip ys).map fun p => .tup [keyV p.1, p.2]
def lstItmF (c : Nat) (fld : Str) : List D → Option D
  | [y] => (fldK c fld y).bind fun p => if p.1.length ≤ 100000 ∧ D.plainL p.2 = true then some (.lst true (itmsD p.1 p.2)) else none
  | _ => none
theorem fldK_view {B H : Hp} {d : D} {v : V} {fp : List Addr} {ks : List Key} {ys : List D} (h : fldK c fld d = some (ks, ys)) (s : BLe B H) (r : Rep X.K cl B H d v fp) :
    ∃ (a dx : Addr) (fs : List (Str × V)) (l : Addr) (zs : List V) (g : List Addr), v = .ref a ∧ H a = some (.ins (cl c) dx fs) ∧ fs.lookup fld = some (.ref l) ∧ Rd H l (.dK (ks.zip zs)) ∧ ks.length = ys.length ∧ RepL X.K cl B H ys zs g := by
  cases d <;> simp only [fldK] at h <;> try (cases h; done)
  split at h
  · rename_i hc
    subst hc
    simp only [Option.bind_eq_some_iff] at h
    obtain ⟨y, hy, h2⟩ := h
    obtain ⟨a, dx, vs, fq, e1, q1, l, q2⟩ := r.obj_view s
    obtain ⟨w, f', k1, k2, _⟩ := zip_fld l q2 hy
    split at h2
    · rename_i ks' ys'
      cases h2
      obtain ⟨a2, us, fq, e2, q3, l2, q4⟩ := k2.dct_view s
      subst e2
      exact ⟨a, dx, _, a2, us, fq, e1, q1, k1, q3, l2, q4⟩
    · cases h2
  · cases h
theorem tell_itms {K : PySem.W.Frag} {H : Hp} : ∀ {ks : List Key} {ys : List D} {zs : List V} {ts : List Addr} {B : Hp}, ks.length = ys.length → BLe B H → RepL K cl B H ys zs [] → Paired (fun (t : Addr) (p : Key × V) => H t = some (.tup [kV p.1, p.2])) ts (ks.zip zs) → ∃ B', New B H B' H ∧ RepL K cl B' H (itmsD ks ys) (ts.map V.ref) []
  | [], ys, zs, ts, B, l, s, r, h => by
    cases h; exact ⟨B, New.refl s, repL_nil⟩
  | ky :: ks, [], zs, ts, B, l, s, r, h => by simp at l
  | ky :: ks, y :: ys, zs, ts, B, l, s, r, h => by
    simp only [RepL] at r
    obtain ⟨z, zr, f1, f2, e1, e2, r1, r2⟩ := r
    have z1 : f1 = [] := (List.append_eq_nil_iff.mp e2.symm).1
    have z2 : f2 = [] := (List.append_eq_nil_iff.mp e2.symm).2
    subst z1 z2 e1
    cases h with
    | @cons t _ ts _ h1 h2 =>
      have n1 := New.tell s h1
      obtain ⟨B2, n2, r3⟩ := tell_itms (ks := ks) (ys := ys) (zs := zr) (ts := ts) (by simpa using l) n1.sub (r2.news n1) h2
      refine ⟨B2, n1.trans n2, repL_cons (f := []) (g := []) ?_ r3⟩
      have r0 : Rep K cl (upd B t (.tup [kV ky, z])) H (.tup [keyV ky, y]) (.ref t) [] := by
        simp only [Rep]
        refine ⟨t, _, rfl, upd_same, repL_cons (f := []) (g := []) ?_ (repL_cons (f := []) (g := []) (r1.news n1) repL_nil)⟩
        cases ky with
        | inl i => exact rep_int
        | inr i => exact rep_str
      exact r0.news n2
theorem lstItmF_ok : CallD X cl (rLstItm (cl c) fld) (lstItmF c fld) := by
  intro B H ds d vs fp s r h Q q
  unfold lstItmF at h
  split at h
  · simp only [Option.bind_eq_some_iff] at h
    obtain ⟨⟨ks, ys⟩, h1, h2⟩ := h
    split at h2
    · rename_i hz
      obtain ⟨hz, hp⟩ := hz
      cases h2
      obtain ⟨v, rfl, r1⟩ := repL_one r
      obtain ⟨a, dx, fs, l, zs, g, rfl, ha, hl, hq, hlen, rl⟩ := fldK_view h1 s r1
      have hg := RepL.plain hp rl
      subst hg
      simp only at hz
      refine ⟨a, dx, fs, l, _, rfl, ha, hl, hq, by rw [List.length_zip]; omega, fun Hn p ts k1 k2 k3 k4 => ?_⟩
      have sn : BLe B Hn := s.trans (BLe.of_same k1)
      have n0 : New B H B Hn := ⟨k1, fun _ _ e => e, sn, fun a e => .inl e⟩
      obtain ⟨B1, n1, r2⟩ := tell_itms (K := X.K) (cl := cl) hlen sn (rl.news n0) k4
      have n01 : New B H B1 Hn := n0.trans n1
      have nn := New.own (o := .lst (ts.map V.ref)) n1.sub k2
      refine q _ B1 _ [p] (n01.trans nn) ?_ ?_
      · simp only [Rep]
        exact ⟨p, _, [], rfl, upd_same, r2.news nn, rfl⟩
      · refine ⟨by simp, fun b z => ?_, fun b z => ?_⟩
        · have : b = p := by simpa using z
          subst this
          cases e : H b with
          | none => rfl
          | some o => rw [k1 _ _ e] at k2; cases k2
        · have : b = p := by simpa using z
          subst this
          cases e : B1 b with
          | none => rfl
          | some o =>
            rcases n1.sub.rd b o (.inl e) with w | ⟨_, w⟩ <;> rw [k2] at w <;> cases w
    · cases h2
  · cases h
end
end VI
set_option Elab.async false
set_option linter.all false
set_option maxRecDepth 100000
set_option autoImplicit false
/-! VTxt: upper, split, join, str(..), f-strings, any, all. -/
namespace VI
open PySem L2
section
variable {X : Cx} {cl : Nat → Addr} {e o : Expr} {me mo : Ev → Option D} {apos pos : Pos}
def mUn (g : D → Option D) (m : Ev → Option D) : Ev → Option D := fun A => (m A).bind g
def upperD : D → Option D
  | .str s => if s.length ≤ 1000000 then some (.str (Txt.upper s)) else none
  | _ => none
theorem ev_upper (ho : EvV X cl o mo) (hb : attributeBase o "upper" X.env (eval o X.env) = eval o X.env := by rfl) (hl : (apos.endLine == pos.line) = true := by rfl) : EvD X cl (.Call (.Attribute o "upper" apos) [] [] pos) (mUn upperD mo) := by
  obtain ⟨t, p, r⟩ := ho
  refine ⟨_, pe_upper p hb hl, fun σ A B H R d hd Q q => ?_⟩
  simp only [mUn, Option.bind_eq_some_iff] at hd
  obtain ⟨x, hx, hd⟩ := hd
  refine r σ A B H R x hx _ fun v B1 H1 f1 n1 r1 => ?_
  cases x <;> simp only [upperD] at hd <;> try (cases hd; done)
  split at hd
  · rename_i hz
    cases hd
    rw [rep_str_iff] at r1
    exact ⟨⟨_, r1.1⟩, _, r1.1, rfl, by omega, q _ B1 H1 [] n1 rep_str Fresh.nil⟩
  · cases hd
def splitD (x y : D) : Option D := match x, y with
  | .str a, .str b => if (b.length == 0) = false ∧ a.length ≤ 1000000 then some (.lst true ((Txt.split a b).map D.str)) else none
  | _, _ => none
theorem repL_strs {K : PySem.W.Frag} {B H : Hp} : ∀ {ys : List Str}, RepL K cl B H (ys.map D.str) (ys.map V.str) []
  | [] => repL_nil
  | n :: ns => repL_cons (f := []) (g := []) rep_str repL_strs
theorem ev_split (ho : EvV X cl o mo) (he : EvV X cl e me) (hs : starEach [e] X.env = [(false, eval e X.env)] := by rfl) (hb : attributeBase o "split" X.env (eval o X.env) = eval o X.env := by rfl) (hl : (apos.endLine == pos.line) = true := by rfl) :
    EvD X cl (.Call (.Attribute o "split" apos) [e] [] pos) (mOp splitD mo me) := by
  obtain ⟨t, p, r⟩ := ho
  obtain ⟨t2, p2, r2⟩ := he
  refine ⟨_, pe_split p p2 hs hb hl, fun σ A B H R d hd Q q => ?_⟩
  obtain ⟨x, y, hx, hy, hd⟩ := mOp_some hd
  refine r σ A B H R x hx _ fun v B1 H1 f1 n1 r1 => ?_
  cases x <;> try (cases hd; done)
  cases y <;> simp only [splitD] at hd <;> try (cases hd; done)
  split at hd
  · rename_i hz
    cases hd
    rw [rep_str_iff] at r1
    refine ⟨⟨_, r1.1⟩, r2 σ A B1 H1 (R.news n1) _ hy _ fun yv B2 H2 fy n2 ry => ?_⟩
    rw [rep_str_iff] at ry
    have n := n1.trans n2
    refine ⟨_, _, r1.1, by rw [ry.1], hz.1, by rw [sizeLine_eq]; omega, fun pp hp => ?_⟩
    exact new_list_q n.sub repL_strs (fun w B' H' fp nn rw_ f => q w B' H' fp (n.trans nn) rw_ (fresh_trans n f)) pp hp
  · cases hd
def strsD : List D → Option (List Str)
  | [] => some []
  | .str s :: xs => (strsD xs).map (s :: ·)
  | _ :: _ => none
theorem strsD_map : ∀ {ys : List Str}, strsD (ys.map D.str) = some ys
  | [] => rfl
  | y :: ys => by rw [List.map_cons]; show (strsD (ys.map D.str)).map _ = _; rw [strsD_map]; rfl
theorem strsD_v {K : PySem.W.Frag} {B H : Hp} : ∀ {xs : List D} {ys : List Str} {vs : List V} {fp : List Addr}, strsD xs = some ys → RepL K cl B H xs vs fp → vs = ys.map V.str
  | [], ys, vs, fp, h, r => by cases h; simp only [RepL] at r; exact r.1
  | x :: xs, ys, vs, fp, h, r => by
    cases x <;> simp only [strsD] at h <;> try (cases h; done)
    simp only [Option.map_eq_some_iff] at h
    obtain ⟨zs, hz, rfl⟩ := h
    simp only [RepL] at r
    obtain ⟨v, vr, f1, f2, e1, e2, r1, r2⟩ := r
    rw [rep_str_iff] at r1
    rw [e1, r1.1, strsD_v hz r2]; rfl
def joinD (x y : D) : Option D := match x, y with
  | .str a, .lst _ xs => (strsD xs).bind fun ys => if (ys.map (·.length)).sum + ys.length * a.length ≤ 16777216 then some (.str (Txt.join a ys)) else none
  | _, _ => none
theorem ev_join (ho : EvV X cl o mo) (he : EvV X cl e me) (hs : starEach [e] X.env = [(false, eval e X.env)] := by rfl) (hb : attributeBase o "join" X.env (eval o X.env) = eval o X.env := by rfl) (hl : (apos.endLine == pos.line) = true := by rfl) :
    EvD X cl (.Call (.Attribute o "join" apos) [e] [] pos) (mOp joinD mo me) := by
  obtain ⟨t, p, r⟩ := ho
  obtain ⟨t2, p2, r2⟩ := he
  refine ⟨_, pe_join p p2 hs hb hl, fun σ A B H R d hd Q q => ?_⟩
  obtain ⟨x, y, hx, hy, hd⟩ := mOp_some hd
  refine r σ A B H R x hx _ fun v B1 H1 f1 n1 r1 => ?_
  cases x <;> try (cases hd; done)
  cases y <;> simp only [joinD] at hd <;> try (cases hd; done)
  simp only [Option.bind_eq_some_iff] at hd
  obtain ⟨ys, hys, hd⟩ := hd
  split at hd
  · rename_i hz
    cases hd
    rw [rep_str_iff] at r1
    refine ⟨⟨_, r1.1⟩, r2 σ A B1 H1 (R.news n1) _ hy _ fun yv B2 H2 fy n2 ry => ?_⟩
    obtain ⟨a, us, fq, e1, h1, q1, _⟩ := ry.lst_view n2.sub
    have := strsD_v hys q1
    subst this e1
    exact ⟨_, a, ys, r1.1, rfl, .inl (.of h1), hz, q _ B2 H2 [] (n1.trans n2) rep_str Fresh.nil⟩
  · cases hd
/-! str(..) -/
def strD : List D → Option D
  | [.int i] => if i.natAbs < 2 ^ 1900 then some (.str (toString i)) else none
  | [.str s] => some (.str s)
  | _ => none
theorem log_lt {n : Nat} (h : n < 2 ^ 1900) : n.log2 < 1920 := by
  rcases Nat.eq_zero_or_pos n with e | e
  · subst e; decide
  · have := (Nat.log2_lt (by omega)).mpr h; omega
theorem strD_ok : CallD X cl (fun xs H Q => (∃ i, xs = [.int i] ∧ i.natAbs.log2 < 1920 ∧ Q (.str (toString i)) H) ∨ ∃ a, xs = [.str a] ∧ Q (.str a) H) strD := by
  intro B H ds d vs fp s r hg Q q
  unfold strD at hg
  split at hg
  · split at hg
    · rename_i hz
      cases hg
      obtain ⟨v, rfl, r1⟩ := repL_one r
      rw [rep_int_iff] at r1
      exact .inl ⟨_, by rw [r1.1], log_lt hz, q _ B H [] (New.refl s) rep_str Fresh.nil⟩
    · cases hg
  · cases hg
    obtain ⟨v, rfl, r1⟩ := repL_one r
    rw [rep_str_iff] at r1
    exact .inr ⟨_, by rw [r1.1], q _ B H [] (New.refl s) rep_str Fresh.nil⟩
  · cases hg
/-! f-strings -/
def fmtD : D → Option D
  | .int i => if i.natAbs < 2 ^ 1900 then some (.str (toString i)) else none
  | .str s => if s.length ≤ sizeLine then some (.str s) else none
  | _ => none
theorem ev_fmt (he : EvV X cl e me) : EvD X cl (.FormattedValue e (-1) none pos) (mUn fmtD me) := by
  obtain ⟨t, p, r⟩ := he
  refine ⟨_, pe_fmt p, fun σ A B H R d hd Q q => ?_⟩
  simp only [mUn, Option.bind_eq_some_iff] at hd
  obtain ⟨x, hx, hd⟩ := hd
  refine r σ A B H R x hx _ fun v B1 H1 f1 n1 r1 => ?_
  cases x <;> simp only [fmtD] at hd <;> try (cases hd; done)
  all_goals
    split at hd
    · rename_i hz
      cases hd
      first
        | (rw [rep_int_iff] at r1; exact .inr ⟨_, r1.1, log_lt hz, q _ B1 H1 [] n1 rep_str Fresh.nil⟩)
        | (rw [rep_str_iff] at r1; exact .inl ⟨_, r1.1, hz, q _ B1 H1 [] n1 rep_str Fresh.nil⟩)
    · cases hd
/-- parts one behind the other -/
def catD : Str → List D → Option Str
  | acc, [] => some acc
  | acc, .str s :: xs => if (acc ++ s).length ≤ sizeLine then catD (acc ++ s) xs else none
  | _, _ :: _ => none
def EvJ (X : Cx) (cl : Nat → Addr) (es : List Expr) (ms : Ev → Option (List D)) : Prop := ∃ ts : List TE, PJ X es ts ∧ ∀ σ A B H, REnv X.K cl B H σ A → ∀ ds, ms A = some ds → ∀ acc out, catD acc ds = some out → ∀ Q : Str → Hp → Prop, (∀ B' H', New B H B' H' → Q out H') → tJs ts acc σ H Q
theorem ej_nil : EvJ X cl [] mNil := ⟨[], .nil, fun σ A B H R ds hd acc out hc Q q => by
  cases hd; cases hc; exact q B H (New.refl R.sub)⟩
theorem ej_cons {es : List Expr} {ms : Ev → Option (List D)} (he : EvV X cl e me) (hr : EvJ X cl es ms) : EvJ X cl (e :: es) (mCons me ms) := by
  obtain ⟨t, p, r⟩ := he
  obtain ⟨ts, p2, r2⟩ := hr
  refine ⟨t :: ts, .cons p p2, fun σ A B H R ds hd acc out hc Q q => ?_⟩
  obtain ⟨d, ds', h1, h2, rfl⟩ := mCons_some hd
  refine r σ A B H R d h1 _ fun v B1 H1 f1 n1 r1 => ?_
  cases d <;> simp only [catD] at hc <;> try (cases hc; done)
  split at hc
  · rename_i hz
    rw [rep_str_iff] at r1
    exact ⟨_, r1.1, hz, r2 σ A B1 H1 (R.news n1) ds' h2 _ _ hc _ fun B' H' n => q B' H' (n1.trans n)⟩
  · cases hc
def mJoined (ms : Ev → Option (List D)) : Ev → Option D := fun A => (ms A).bind fun ds => (catD Str.empty ds).map .str
theorem ev_joined {a b : Expr} {es : List Expr} {ms : Ev → Option (List D)} (h : EvJ X cl (a :: b :: es) ms) : EvD X cl (.JoinedStr (a :: b :: es) pos) (mJoined ms) := by
  obtain ⟨ts, p, r⟩ := h
  refine ⟨_, pe_joined p, fun σ A B H R d hd Q q => ?_⟩
  simp only [mJoined, Option.bind_eq_some_iff, Option.map_eq_some_iff] at hd
  obtain ⟨ds, h1, out, h2, rfl⟩ := hd
  exact r σ A B H R ds h1 _ _ h2 _ fun B' H' n => q _ B' H' [] n rep_str Fresh.nil
/-! any, all of a list of truths -/
def blsD : List D → Option (List Bool)
  | [] => some []
  | .bl b :: xs => (blsD xs).map (b :: ·)
  | _ :: _ => none
theorem blsD_map : ∀ {ys : List Bool}, blsD (ys.map D.bl) = some ys
  | [] => rfl
  | y :: ys => by rw [List.map_cons]; show (blsD (ys.map D.bl)).map _ = _; rw [blsD_map]; rfl
theorem blsD_v {K : PySem.W.Frag} {B H : Hp} : ∀ {xs : List D} {ys : List Bool} {vs : List V} {fp : List Addr}, blsD xs = some ys → RepL K cl B H xs vs fp → vs = ys.map V.bl
  | [], ys, vs, fp, h, r => by cases h; simp only [RepL] at r; exact r.1
  | x :: xs, ys, vs, fp, h, r => by
    cases x <;> simp only [blsD] at h <;> try (cases h; done)
    simp only [Option.map_eq_some_iff] at h
    obtain ⟨zs, hz, rfl⟩ := h
    simp only [RepL] at r
    obtain ⟨v, vr, f1, f2, e1, e2, r1, r2⟩ := r
    rw [rep_bl_iff] at r1
    rw [e1, r1.1, blsD_v hz r2]; rfl
def anyD : List D → Option D
  | [.lst _ xs] => (blsD xs).map fun bs => .bl (bs.any id)
  | _ => none
def allD : List D → Option D
  | [.lst _ xs] => (blsD xs).map fun bs => .bl (bs.all id)
  | _ => none
theorem anyD_ok : CallD X cl (rAny X.K) anyD := by
  intro B H ds d vs fp s r hg Q q
  unfold anyD at hg
  split at hg
  · simp only [Option.map_eq_some_iff] at hg
    obtain ⟨bs, hb, rfl⟩ := hg
    obtain ⟨v, rfl, r1⟩ := repL_one r
    obtain ⟨a, us, fq, e1, h1, q1, _⟩ := r1.lst_view s
    have := blsD_v hb q1
    subst this e1
    exact ⟨a, bs, rfl, .of h1, q _ B H [] (New.refl s) rep_bl Fresh.nil⟩
  · cases hg
theorem allD_ok : CallD X cl (rAll X.K) allD := by
  intro B H ds d vs fp s r hg Q q
  unfold allD at hg
  split at hg
  · simp only [Option.map_eq_some_iff] at hg
    obtain ⟨bs, hb, rfl⟩ := hg
    obtain ⟨v, rfl, r1⟩ := repL_one r
    obtain ⟨a, us, fq, e1, h1, q1, _⟩ := r1.lst_view s
    have := blsD_v hb q1
    subst this e1
    exact ⟨a, bs, rfl, .of h1, q _ B H [] (New.refl s) rep_bl Fresh.nil⟩
  · cases hg
/-! x is True, x is not False -/
def isBD : D → D → Option D
  | .bl a, .bl b => some (.bl (decide (a = b)))
  | _, _ => none
def notBD : D → D → Option D
  | .bl a, .bl b => some (.bl (!decide (a = b)))
  | _, _ => none
theorem isBD_ok : OpD X cl (fun x y H Q => ∃ a b, x = .bl a ∧ y = .bl b ∧ Q (.bl (decide (a = b))) H) isBD := by
  intro B H x y d u v f1 f2 s r1 r2 h Q q
  unfold isBD at h
  split at h <;> cases h
  rw [rep_bl_iff] at r1 r2
  exact ⟨_, _, r1.1, r2.1, q _ B H [] (New.refl s) rep_bl Fresh.nil⟩
theorem notBD_ok : OpD X cl (fun x y H Q => ∃ a b, x = .bl a ∧ y = .bl b ∧ Q (.bl (!decide (a = b))) H) notBD := by
  intro B H x y d u v f1 f2 s r1 r2 h Q q
  unfold notBD at h
  split at h <;> cases h
  rw [rep_bl_iff] at r1 r2
  exact ⟨_, _, r1.1, r2.1, q _ B H [] (New.refl s) rep_bl Fresh.nil⟩
end
end VI
set_option Elab.async false
set_option linter.all false
set_option maxRecDepth 100000
set_option autoImplicit false
namespace VI
open PySem L2
theorem sp_law {K : PySem.W.Frag} {cl : Nat → Addr} {H : Hp} {a : Addr} {ns : List Int} {f : List D → Option (D × Ev)} {E : XK} (hS : SqL K H a (ns.map V.int)) (h : ∃ A, f [.scr ns] = some (.bl true, A)) : SpF K cl [] 1 f [.ref a] H (fun v _ => v = .bl true) E := by
  obtain ⟨A, h⟩ := h
  have r : RepL K cl H H [.scr ns] [.ref a] [] := repL_cons (f := []) (g := []) (by simp only [Rep]; exact ⟨a, rfl, hS, trivial⟩) repL_nil
  refine ⟨rfl, H, [.scr ns], _, [], good0 (BLe.refl H) r, _, A, h, fun σ' B' H' F' v fp g rp w => ?_⟩
  rw [rep_bl_iff] at rp
  exact rp.1
theorem FunD_uniq {K : PySem.W.Frag} {x qual : Str} {params : Arguments} {body : List Stmt} {scope : Scope} {dvs : List V} {kws : List (Str × V)} {f : Addr} {fd fd2 : FuncData} (F : FunD K x qual params body scope dvs kws f fd) (F2 : FunD K x qual params body scope dvs kws f fd2) : fd = fd2 := by
  obtain ⟨⟨oc, od, dV, kV, doc, pm, an, cdv, ct, osl, _, l, _⟩, _⟩ := F
  obtain ⟨⟨oc2, od2, dV2, kV2, doc2, pm2, an2, cdv2, ct2, osl2, _, l2, _⟩, _⟩ := F2
  rw [l] at l2
  simp only [Option.some.injEq, Obj.mk.injEq, Data.func.injEq] at l2
  exact l2.2.2.1
end VI
set_option Elab.async false
set_option linter.all false
set_option maxRecDepth 100000
set_option autoImplicit false
namespace VI
open PySem L2
/-! ### the pure functions reckon: rules for simp -/
section
variable {A A' : Ev} {i : Nat} {d : D} {m ma mb : Ev → Option D} {ms : Ev → Option (List D)} {f : Str} {c : Nat}
@[simp] theorem mV_eq : mV i A = A[i]?.join := (rfl)
@[simp] theorem mC_eq : mC d A = some d := (rfl)
@[simp] theorem mP_eq : mP m A = (m A).bind fun d => if d.plain = true then some d else none := (rfl)
@[simp] theorem mOp_eq {α : Type} {g : D → D → Option α} : mOp g ma mb A = (ma A).bind fun x => (mb A).bind fun y => g x y := (rfl)
@[simp] theorem mNil_eq : mNil A = some [] := (rfl)
@[simp] theorem mCons_eq : mCons m ms A = (m A).bind fun d => (ms A).map (d :: ·) := (rfl)
@[simp] theorem mCall_eq {g : List D → Option D} : mCall g ms A = (ms A).bind g := (rfl)
@[simp] theorem mLst_eq : mLst ms A = (ms A).bind fun ds => if ds.length ≤ 1000 then some (.lst true ds) else none := (rfl)
@[simp] theorem mTup_eq : mTup ms A = (ms A).bind fun ds => if ds.length ≤ 1000 then some (.tup ds) else none := (rfl)
theorem mPos_eq {g : List D → Option (D × Ev)} : mPos g ms A = (ms A).bind fun ds => (g (D.frzL ds)).bind fun r => if D.plainL ds = true ∨ r.1.clean = true then some r.1 else none := (rfl)
@[simp] theorem mRecv_eq : mRecv c f m ms A = (m A).bind fun d => if isObj c f d = true then (ms A).map (d :: ·) else none := (rfl)
@[simp] theorem mAnd_eq {ta tb : Ev → Option Bool} : mAnd ta tb A = (ta A).bind fun x => if x = true then tb A else some false := (rfl)
@[simp] theorem mOr_eq {ta tb : Ev → Option Bool} : mOr ta tb A = (ta A).bind fun x => if x = true then some true else tb A := (rfl)
@[simp] theorem mNot_eq {ta : Ev → Option Bool} : mNot ta A = (ta A).map fun x => !x := (rfl)
@[simp] theorem mIf_eq {ta : Ev → Option Bool} : mIf ta ma mb A = (ta A).bind fun x => if x = true then ma A else mb A := (rfl)
@[simp] theorem mAndV_eq : mAndV ma mb A = (mT ma A).bind fun x => if x = true then mb A else some (.bl false) := (rfl)
@[simp] theorem mOrV_eq : mOrV ma mb A = (mT ma A).bind fun x => if x = true then some (.bl true) else mb A := (rfl)
@[simp] theorem mNotV_eq : mNotV ma A = (mT ma A).map fun x => .bl (!x) := (rfl)
@[simp] theorem mIsi_eq {T : String} : mIsi T m A = (m A).bind fun d => (tyD d).bind fun n => (kitB n T).map .bl := (rfl)
@[simp] theorem mTr_eq : mTr m A = (m A).bind truth := (rfl)
theorem mT_def : mT m A = match m A with | some (.bl b) => some b | _ => none := (rfl)
@[simp] theorem mSl_eq {l h : Ev → Option (Option Int)} : mSl m l h A = (m A).bind fun x => (l A).bind fun lo => (h A).bind fun hi => sliceD x lo hi := (rfl)
@[simp] theorem mONone_eq : mONone A = some none := (rfl)
@[simp] theorem mRng1_eq : mRng1 ms A = (ms A).bind rangeD1 := (rfl)
@[simp] theorem mRng2_eq : mRng2 ms A = (ms A).bind rangeD2 := (rfl)
@[simp] theorem mItems'_eq : mItems' m A = (m A).bind fun d => items' d.frz := (rfl)
@[simp] theorem addD_int {i j : Int} : addD (.int i) (.int j) = some (.int (i + j)) := (rfl)
@[simp] theorem subD_int {i j : Int} : subD (.int i) (.int j) = some (.int (i - j)) := (rfl)
theorem mulD_int {i j : Int} : mulD (.int i) (.int j) = if small64 i || small64 j then some (.int (i * j)) else none := (rfl)
@[simp] theorem fdivD_int {i j : Int} (h0 : 0 < j) (h : j < 1073741824) : fdivD (.int i) (.int j) = some (.int (i / j)) := by
  show (if 0 < j ∧ j.natAbs < 1073741824 then some (D.int (i / j)) else none) = _
  rw [if_pos ⟨h0, by omega⟩]
@[simp] theorem modD_int {i j : Int} (h0 : 0 < j) : modD (.int i) (.int j) = some (.int (i % j)) := by
  show (if 0 < j then some (D.int (i % j)) else none) = _
  rw [if_pos h0]
@[simp] theorem powD_int {i j : Int} (h0 : 0 ≤ j) (h1 : j ≤ 1000) (h2 : i.natAbs < 1000) : powD (.int i) (.int j) = some (.int (i ^ j.toNat)) := by
  show (if 0 ≤ j ∧ j.natAbs ≤ 1000 ∧ i.natAbs < 1000 then some (D.int (i ^ j.toNat)) else none) = _
  rw [if_pos ⟨h0, by omega, h2⟩]
@[simp] theorem addD_str {s t : Str} (h : s.length + t.length ≤ sizeLine) : addD (.str s) (.str t) = some (.str (s ++ t)) := by
  show (if s.length + t.length ≤ sizeLine then some (D.str (s ++ t)) else none) = _
  rw [if_pos h]
@[simp] theorem ltD_int {i j : Int} : ltD (.int i) (.int j) = some (.bl (decide (i < j))) := (rfl)
@[simp] theorem leD_int {i j : Int} : leD (.int i) (.int j) = some (.bl (decide (i ≤ j))) := (rfl)
@[simp] theorem gtD_int {i j : Int} : gtD (.int i) (.int j) = some (.bl (decide (j < i))) := (rfl)
@[simp] theorem geD_int {i j : Int} : geD (.int i) (.int j) = some (.bl (decide (j ≤ i))) := (rfl)
@[simp] theorem absD_int {i : Int} : absD [.int i] = some (.int (if i < 0 then -i else i)) := (rfl)
@[simp] theorem intD_int {i : Int} : intD [.int i] = some (.int i) := (rfl)
@[simp] theorem lenD_lst {b : Bool} {xs : List D} : lenD [.lst b xs] = some (.int xs.length) := (rfl)
@[simp] theorem lenD_tup {xs : List D} : lenD [.tup xs] = some (.int xs.length) := (rfl)
@[simp] theorem lenD_scr {xs : List Int} : lenD [.scr xs] = some (.int xs.length) := (rfl)
@[simp] theorem lenD_str {s : Str} : lenD [.str s] = if s.length ≤ sizeLine then some (.int s.length) else none := (rfl)
@[simp] theorem lenD_dct {b : Bool} {ks : List Key} {xs : List D} : lenD [.dct b ks xs] = some (.int ks.length) := (rfl)
@[simp] theorem subscr_lst {b : Bool} {xs : List D} {i : Int} : subscr (.lst b xs) (.int i) = atI xs i := (rfl)
@[simp] theorem subscr_tup {xs : List D} {i : Int} : subscr (.tup xs) (.int i) = atI xs i := (rfl)
@[simp] theorem subscr_scr {xs : List Int} {i : Int} : subscr (.scr xs) (.int i) = (atI xs i).map .int := (rfl)
@[simp] theorem subscr_dct {b : Bool} {ks : List Key} {xs : List D} {k : D} : subscr (.dct b ks xs) k = (keyD k).bind (look ks xs) := (rfl)
@[simp] theorem subscr_str {s : Str} {i : Int} : subscr (.str s) (.int i) = if s.length ≤ sizeLine then (atI s.cps.toList i).map fun c => .str ⟨#[c]⟩ else none := (rfl)
/-- a text as a key -/
def kS (s : Str) : Key := Sum.inr s
@[simp] theorem keyD_str {s : Str} : keyD (.str s) = some (kS s) := (rfl)
@[simp] theorem keyD_int {s : Int} : keyD (.int s) = some (.inl s) := (rfl)
@[simp] theorem eqD_ii {a b : Int} : eqD (.int a) (.int b) = some (.bl (decide (a = b))) := by simp [eqD]
@[simp] theorem eqD_bb {a b : Bool} : eqD (.bl a) (.bl b) = some (.bl (decide (a = b))) := by simp [eqD]
@[simp] theorem eqD_ss {a b : Str} : eqD (.str a) (.str b) = some (.bl (decide (a = b))) := by simp [eqD]
@[simp] theorem neD_int {a b : Int} : neD (.int a) (.int b) = some (.bl (!decide (a = b))) := by simp [neD]
@[simp] theorem neD_bl {a b : Bool} : neD (.bl a) (.bl b) = some (.bl (!decide (a = b))) := by simp [neD]
@[simp] theorem neD_str {a b : Str} : neD (.str a) (.str b) = some (.bl (!decide (a = b))) := by simp [neD]
@[simp] theorem truth_bl {b : Bool} : truth (.bl b) = some b := (rfl)
@[simp] theorem tyD_int {i : Int} : tyD (.int i) = some "int" := (rfl)
@[simp] theorem tyD_bl {i : Bool} : tyD (.bl i) = some "bool" := (rfl)
@[simp] theorem tyD_str {i : Str} : tyD (.str i) = some "str" := (rfl)
@[simp] theorem tyD_non : tyD .non = some "NoneType" := (rfl)
@[simp] theorem tyD_tup {i : List D} : tyD (.tup i) = some "tuple" := (rfl)
@[simp] theorem tyD_lst {b : Bool} {i : List D} : tyD (.lst b i) = some "list" := (rfl)
@[simp] theorem kit_ii : kitB "int" "int" = some true := by decide +kernel
@[simp] theorem kit_ib : kitB "int" "bool" = some false := by decide +kernel
@[simp] theorem kit_bi : kitB "bool" "int" = some true := by decide +kernel
@[simp] theorem kit_bb : kitB "bool" "bool" = some true := by decide +kernel
@[simp] theorem kit_tt : kitB "tuple" "tuple" = some true := by decide +kernel
@[simp] theorem kit_ll : kitB "list" "list" = some true := by decide +kernel
@[simp] theorem kit_ss : kitB "str" "str" = some true := by decide +kernel
end
end VI
namespace VI
open PySem L2
@[simp] theorem frz_int {i : Int} : (D.int i).frz = .int i := (rfl)
@[simp] theorem frz_bl {i : Bool} : (D.bl i).frz = .bl i := (rfl)
@[simp] theorem frz_str {i : Str} : (D.str i).frz = .str i := (rfl)
@[simp] theorem frz_non : D.non.frz = .non := (rfl)
@[simp] theorem frz_scr {i : List Int} : (D.scr i).frz = .scr i := (rfl)
@[simp] theorem frz_tup {xs : List D} : (D.tup xs).frz = .tup (D.frzL xs) := (rfl)
@[simp] theorem frz_lst {b : Bool} {xs : List D} : (D.lst b xs).frz = .lst false (D.frzL xs) := (rfl)
@[simp] theorem frz_dct {b : Bool} {ks : List Key} {xs : List D} : (D.dct b ks xs).frz = .dct false ks (D.frzL xs) := (rfl)
@[simp] theorem frz_dtt {b : Bool} {ks : List (List Key)} {xs : List D} : (D.dtt b ks xs).frz = .dtt false ks (D.frzL xs) := (rfl)
@[simp] theorem frz_obj {b : Bool} {c : Nat} {fs : List Str} {xs : List D} : (D.obj b c fs xs).frz = .obj false c fs (D.frzL xs) := (rfl)
@[simp] theorem frzL_nil : D.frzL [] = [] := (rfl)
@[simp] theorem frzL_cons {x : D} {xs : List D} : D.frzL (x :: xs) = x.frz :: D.frzL xs := (rfl)
@[simp] theorem frzL_ints {α : Type} {f : α → Int} {xs : List α} : D.frzL (xs.map fun x => D.int (f x)) = xs.map fun x => D.int (f x) := by induction xs with | nil => rfl | cons x xs ih => simp [ih]
@[simp] theorem frzL_int {xs : List Int} : D.frzL (xs.map D.int) = xs.map D.int := by induction xs with | nil => rfl | cons x xs ih => simp [ih]
@[simp] theorem frzL_str {xs : List Str} : D.frzL (xs.map D.str) = xs.map D.str := by induction xs with | nil => rfl | cons x xs ih => simp [ih]
@[simp] theorem frzL_bl {xs : List Bool} : D.frzL (xs.map D.bl) = xs.map D.bl := by induction xs with | nil => rfl | cons x xs ih => simp [ih]
theorem frzL_map {α : Type} {g : α → D} {xs : List α} : D.frzL (xs.map g) = xs.map fun x => (g x).frz := by induction xs with | nil => rfl | cons x xs ih => simp [ih]
@[simp] theorem plain_int {i : Int} : (D.int i).plain = true := (rfl)
@[simp] theorem plain_bl {i : Bool} : (D.bl i).plain = true := (rfl)
@[simp] theorem plain_str {i : Str} : (D.str i).plain = true := (rfl)
@[simp] theorem plain_non : D.non.plain = true := (rfl)
@[simp] theorem plain_scr {i : List Int} : (D.scr i).plain = true := (rfl)
@[simp] theorem plain_tup {xs : List D} : (D.tup xs).plain = D.plainL xs := (rfl)
@[simp] theorem plain_lst {b : Bool} {xs : List D} : (D.lst b xs).plain = !b := (rfl)
@[simp] theorem plain_dct {b : Bool} {ks : List Key} {xs : List D} : (D.dct b ks xs).plain = !b := (rfl)
@[simp] theorem plain_dtt {b : Bool} {ks : List (List Key)} {xs : List D} : (D.dtt b ks xs).plain = !b := (rfl)
@[simp] theorem plain_obj {b : Bool} {c : Nat} {fs : List Str} {xs : List D} : (D.obj b c fs xs).plain = !b := (rfl)
@[simp] theorem plainL_nil : D.plainL [] = true := (rfl)
@[simp] theorem plainL_cons {x : D} {xs : List D} : D.plainL (x :: xs) = (x.plain && D.plainL xs) := (rfl)
@[simp] theorem plainL_int {xs : List Int} : D.plainL (xs.map D.int) = true := by induction xs with | nil => rfl | cons x xs ih => simp [ih]
@[simp] theorem plainL_str {xs : List Str} : D.plainL (xs.map D.str) = true := by induction xs with | nil => rfl | cons x xs ih => simp [ih]
@[simp] theorem plainL_bl {xs : List Bool} : D.plainL (xs.map D.bl) = true := by induction xs with | nil => rfl | cons x xs ih => simp [ih]
theorem plainL_all {xs : List D} (h : ∀ x ∈ xs, x.plain = true) : D.plainL xs = true := by induction xs with | nil => rfl | cons x xs ih => simp [h x (by simp), ih fun y z => h y (by simp [z])]
@[simp] theorem clean_int {i : Int} : (D.int i).clean = true := (rfl)
@[simp] theorem clean_bl {i : Bool} : (D.bl i).clean = true := (rfl)
@[simp] theorem clean_str {i : Str} : (D.str i).clean = true := (rfl)
@[simp] theorem clean_non : D.non.clean = true := (rfl)
@[simp] theorem clean_tup {xs : List D} : (D.tup xs).clean = D.cleanL xs := (rfl)
@[simp] theorem clean_lst {b : Bool} {xs : List D} : (D.lst b xs).clean = (b && D.cleanL xs) := (rfl)
@[simp] theorem clean_dct {b : Bool} {ks : List Key} {xs : List D} : (D.dct b ks xs).clean = (b && D.cleanL xs) := (rfl)
@[simp] theorem clean_dtt {b : Bool} {ks : List (List Key)} {xs : List D} : (D.dtt b ks xs).clean = (b && D.cleanL xs) := (rfl)
@[simp] theorem clean_obj {b : Bool} {c : Nat} {fs : List Str} {xs : List D} : (D.obj b c fs xs).clean = (b && D.cleanL xs) := (rfl)
@[simp] theorem cleanL_nil : D.cleanL [] = true := (rfl)
@[simp] theorem cleanL_cons {x : D} {xs : List D} : D.cleanL (x :: xs) = (x.clean && D.cleanL xs) := (rfl)
@[simp] theorem cleanL_int {xs : List Int} : D.cleanL (xs.map D.int) = true := by induction xs with | nil => rfl | cons x xs ih => simp [ih]
@[simp] theorem cleanL_str {xs : List Str} : D.cleanL (xs.map D.str) = true := by induction xs with | nil => rfl | cons x xs ih => simp [ih]
@[simp] theorem cleanL_bl {xs : List Bool} : D.cleanL (xs.map D.bl) = true := by induction xs with | nil => rfl | cons x xs ih => simp [ih]
theorem cleanL_all {xs : List D} (h : ∀ x ∈ xs, x.clean = true) : D.cleanL xs = true := by induction xs with | nil => rfl | cons x xs ih => simp [h x (by simp), ih fun y z => h y (by simp [z])]
theorem frzL_eq {xs : List D} : D.frzL xs = xs.map D.frz := by induction xs with | nil => rfl | cons x xs ih => simp [ih]
mutual
theorem plain_frz : ∀ d : D, d.frz.plain = true
  | .non => rfl | .bl _ => rfl | .int _ => rfl | .str _ => rfl | .scr _ => rfl | .ktup _ => rfl
  | .tup xs => by simp only [D.frz, D.plain]; exact plainL_frz xs
  | .lst _ xs => rfl
  | .dct _ _ xs => rfl
  | .dtt _ _ xs => rfl
  | .obj _ _ _ xs => rfl
theorem plainL_frz : ∀ ds : List D, D.plainL (D.frzL ds) = true
  | [] => rfl
  | d :: ds => by simp only [D.frzL, D.plainL, plain_frz d, plainL_frz ds]; rfl
end
/-! tests -/
section
variable {A : Ev} {m : Ev → Option D}
theorem mT_of {b : Bool} (h : m A = some (.bl b)) : mT m A = some b := by simp [mT_def, h]
/-! statements -/
variable {m1 m2 : SM} {o : SOut} {d : D} {A' : Ev} {i : Nat} {me : Ev → Option D}
theorem seq_nx (h : m1 A = some (.nx A')) : sSeq m1 m2 A = m2 A' := by simp [sSeq, h]
theorem seq_rt (h : m1 A = some (.rt d A')) : sSeq m1 m2 A = some (.rt d A') := by simp [sSeq, h]
theorem seq_ct (h : m1 A = some (.ct A')) : sSeq m1 m2 A = some (.ct A') := by simp [sSeq, h]
theorem seq_bk (h : m1 A = some (.bk A')) : sSeq m1 m2 A = some (.bk A') := by simp [sSeq, h]
@[simp] theorem sNx_eq : sNx A = some (.nx A) := (rfl)
@[simp] theorem sIf_eq {t : Ev → Option Bool} : sIf t m1 m2 A = (t A).bind fun b => if b = true then m1 A else m2 A := (rfl)
@[simp] theorem sAsg_eq : sAsg i me A = (me A).bind fun d => if i < A.length then some (.nx (A.set i (some d))) else none := (rfl)
@[simp] theorem sAsgG_eq {g : D → Ev → Option Ev} : sAsgG g me A = (me A).bind fun d => (g d.frz A).map .nx := (rfl)
@[simp] theorem sRet_eq : sRet me A = (me A).map fun d => .rt d A := (rfl)
@[simp] theorem sExp_eq : sExp me A = (me A).map fun _ => .nx A := (rfl)
@[simp] theorem sEff_eq {m : Ev → Option (D × Ev)} : sEff m A = (m A).map fun r => .nx r.2 := (rfl)
@[simp] theorem sEffR_eq {m : Ev → Option (D × Ev)} : sEffR m A = (m A).map fun r => .rt r.1 r.2 := (rfl)
@[simp] theorem sEffA_eq {m : Ev → Option (D × Ev)} : sEffA i m A = (m A).bind fun r => if i < r.2.length then some (.nx (r.2.set i (some r.1))) else none := (rfl)
@[simp] theorem sIfE_eq {t : Ev → Option (Bool × Ev)} : sIfE t m1 m2 A = (t A).bind fun r => if r.1 = true then m1 r.2 else m2 r.2 := (rfl)
@[simp] theorem tNon_eq {neg : Bool} {m : Ev → Option (D × Ev)} : tNon neg m A = (m A).map fun r => (match r.1 with | .non => !neg | _ => neg, r.2) := (rfl)
@[simp] theorem bMeth_eq {p : Pl} {op : D → Option (D × D)} : bMeth p op A = (p A).bind fun z => (op z.2.2).map fun r => (r.1, updP A z.1 z.2.1 r.2) := (rfl)
@[simp] theorem bMeth1_eq {p : Pl} {op : D → D → Option (D × D)} : bMeth1 p me op A = (p A).bind fun z => (me A).bind fun y => (op z.2.2 y).map fun r => (r.1, updP A z.1 z.2.1 r.2) := (rfl)
@[simp] theorem opAppend_eq {xs : List D} {y : D} : opAppend (.lst true xs) y = if xs.length < 1000000 then some (.non, .lst true (xs ++ [y])) else none := (rfl)
@[simp] theorem tgN_eq : tgN i d A = if i < A.length then some (A.set i (some d)) else none := (rfl)
theorem sFor_eq {mi : Ev → Option (List D)} {g : D → Ev → Option Ev} {mb : SM} : sFor mi g mb A = (mi A).bind fun ds => forL (fun d A => (g d A).bind mb) ds A := (rfl)
theorem sFrz_at {m : SM} (h : A[i]? = some (some d)) : sFrz i m A = m (A.set i (some d.frz)) := by simp [sFrz, h]
theorem sRetV_at (h : A[i]? = some (some d)) : sRetV i A = some (.rt d (A.set i none)) := by simp [sRetV, h]
theorem pN_at (h : A[i]? = some (some d)) : pN i A = some (i, [], d) := by simp [pN, h]
end
theorem sFor_at {A : Ev} {o : Option SOut} {ds : List D} {mi : Ev → Option (List D)} {g : D → Ev → Option Ev} {mb : SM} (hi : mi A = some ds) (h : forL (fun d A => (g d A).bind mb) ds A = o) : sFor mi g mb A = o := by rw [sFor_eq, hi]; exact h
theorem rng1_at {A : Ev} {ms : Ev → Option (List D)} {n : Nat} (h : ms A = some [.int n]) (hn : n ≤ 1000000) : mRng1 ms A = some ((List.range n).map fun (k : Nat) => D.int (0 + k)) := by
  rw [mRng1_eq, h]
  simp only [Option.bind_some, rangeD1]
  rw [if_pos (by omega)]; simp
/-! loops -/
section
variable {bd : D → Ev → Option SOut}
/-- a loop that runs to its end: I tells the state ahead of the i-th turn -/
theorem forL_inv (I : Nat → Ev → Prop) : ∀ (ds : List D) (A : Ev), I 0 A → (∀ i d A, ds[i]? = some d → I i A → ∃ A', (bd d A = some (.nx A') ∨ bd d A = some (.ct A')) ∧ I (i + 1) A') → ∃ A', forL bd ds A = some (.nx A') ∧ I ds.length A'
  | [], A, h0, _ => ⟨A, rfl, h0⟩
  | d :: ds, A, h0, h => by
    obtain ⟨A1, h1, h2⟩ := h 0 d A rfl h0
    obtain ⟨A2, h3, h4⟩ := forL_inv (fun i => I (i + 1)) ds A1 h2 fun i d A hd hi => h (i + 1) d A (by simpa using hd) hi
    refine ⟨A2, ?_, h4⟩
    rcases h1 with e | e <;> simp only [forL, e, h3]
/-- .. that may be left by a return -/
theorem forL_ret (I : Nat → Ev → Prop) (Rt : D → Ev → Prop) : ∀ (ds : List D) (A : Ev), I 0 A → (∀ i d A, ds[i]? = some d → I i A → (∃ A', (bd d A = some (.nx A') ∨ bd d A = some (.ct A')) ∧ I (i + 1) A') ∨ ∃ r A', bd d A = some (.rt r A') ∧ Rt r A') →
    (∃ A', forL bd ds A = some (.nx A') ∧ I ds.length A') ∨ ∃ r A', forL bd ds A = some (.rt r A') ∧ Rt r A'
  | [], A, h0, _ => .inl ⟨A, rfl, h0⟩
  | d :: ds, A, h0, h => by
    rcases h 0 d A rfl h0 with ⟨A1, h1, h2⟩ | ⟨r, A1, h1, h2⟩
    · rcases forL_ret (fun i => I (i + 1)) Rt ds A1 h2 fun i d A hd hi => h (i + 1) d A (by simpa using hd) hi with ⟨A2, h3, h4⟩ | ⟨r, A2, h3, h4⟩
      · exact .inl ⟨A2, by rcases h1 with e | e <;> simp only [forL, e, h3], h4⟩
      · exact .inr ⟨r, A2, by rcases h1 with e | e <;> simp only [forL, e, h3], h4⟩
    · exact .inr ⟨r, A1, by simp only [forL, h1], h2⟩
end
/-! a def's answer -/
/-- f answers r at these arguments -/
def Gives (f : List D → Option (D × Ev)) (ds : List D) (r : D) : Prop := ∃ A, f ds = some (r, A)
/-- .. and its q-th parameter, lent, is e behind it -/
def GivesL (f : List D → Option (D × Ev)) (q : Nat) (ds : List D) (r e : D) : Prop := ∃ A, f ds = some (r, A) ∧ A[q]? = some (some e)
section
variable {n N : Nat} {m : SM} {ds : List D} {r e : D} {A A' : Ev}
theorem gives_rt (hl : ds.length = n) (h : m (ds.map some ++ List.replicate (N - n) none) = some (.rt r A)) : runF n N m ds = some (r, A) := by simp [runF, hl, h]
theorem Gives.rt (hl : ds.length = n) (h : ∃ A, m (ds.map some ++ List.replicate (N - n) none) = some (.rt r A)) : Gives (runF n N m) ds r := let ⟨A, h⟩ := h; ⟨A, gives_rt hl h⟩
theorem gives_nx (hl : ds.length = n) (h : m (ds.map some ++ List.replicate (N - n) none) = some (.nx A)) : runF n N m ds = some (.non, A) := by simp [runF, hl, h]
end
section
variable {n N q : Nat} {m : SM} {ds : List D} {r e : D}
theorem Gives.nx (hl : ds.length = n) (h : ∃ A, m (ds.map some ++ List.replicate (N - n) none) = some (.nx A)) : Gives (runF n N m) ds .non := let ⟨A, h⟩ := h; ⟨A, gives_nx hl h⟩
theorem GivesL.rt (hl : ds.length = n) (h : ∃ A, m (ds.map some ++ List.replicate (N - n) none) = some (.rt r A) ∧ A[q]? = some (some e)) : GivesL (runF n N m) q ds r e := let ⟨A, h, h2⟩ := h; ⟨A, gives_rt hl h, h2⟩
theorem GivesL.nx (hl : ds.length = n) (h : ∃ A, m (ds.map some ++ List.replicate (N - n) none) = some (.nx A) ∧ A[q]? = some (some e)) : GivesL (runF n N m) q ds .non e := let ⟨A, h, h2⟩ := h; ⟨A, gives_nx hl h, h2⟩
end
@[simp] theorem frzL_len {xs : List D} : (D.frzL xs).length = xs.length := D.frzL_length xs
/-- places in a list -/
theorem atI_nat {α : Type} {xs : List α} {k : Nat} (h : k < xs.length) : atI xs (k : Int) = xs[k]? := by
  unfold atI ixN
  rw [if_pos (by omega), if_pos (by omega)]
  simp
theorem atI_int {α : Type} {xs : List α} {k : Int} (h0 : 0 ≤ k) (h : k < xs.length) : atI xs k = xs[k.toNat]? := by
  obtain ⟨n, rfl⟩ := Int.eq_ofNat_of_zero_le h0
  rw [atI_nat (by omega)]; simp
end VI
namespace VI
open PySem L2
theorem sIx_nat {n d k : Nat} (h : k ≤ n) : HT.sIx n d (some (k : Int)) = k := by
  simp only [HT.sIx]
  rw [if_neg (by omega)]
  simp; omega
theorem cut_to {α : Type} {xs : List α} {k : Nat} (h : k ≤ xs.length) : cutD xs none (some (k : Int)) = xs.take k := by
  unfold cutD
  rw [sIx_nat h, show HT.sIx xs.length 0 none = 0 from rfl]
  simp
theorem cut_mid {α : Type} {xs : List α} {j k : Nat} (hj : j ≤ xs.length) (h : k ≤ xs.length) : cutD xs (some (j : Int)) (some (k : Int)) = (xs.drop j).take (k - j) := by
  unfold cutD
  rw [sIx_nat h, sIx_nat hj]
end VI
set_option Elab.async false
set_option linter.all false
set_option maxRecDepth 100000
set_option autoImplicit false
/-! VRun: the pure functions run by simp. -/
namespace VI
open PySem L2
/-! ### statements one behind the other -/
def andThen (o : Option SOut) (m : SM) : Option SOut := match o with
  | some (.nx A) => m A
  | r => r
section
variable {A : Ev} {m m1 m2 : SM} {d : D} {is : List Nat} {o : Option SOut}
@[simp] theorem sSeq_run : sSeq m1 m2 A = andThen (m1 A) m2 := (rfl)
@[simp] theorem andThen_nx : andThen (some (.nx A)) m = m A := (rfl)
@[simp] theorem andThen_rt : andThen (some (.rt d A)) m = some (.rt d A) := (rfl)
@[simp] theorem andThen_bk : andThen (some (.bk A)) m = some (.bk A) := (rfl)
@[simp] theorem andThen_ct : andThen (some (.ct A)) m = some (.ct A) := (rfl)
@[simp] theorem andThen_ite {c : Prop} [Decidable c] {a b : Option SOut} : andThen (if c then a else b) m = if c then andThen a m else andThen b m := by split <;> rfl
def kOut (is : List Nat) (o : Option SOut) : Option SOut := match o with
  | some (.nx A) => some (.nx (killA is A))
  | r => r
@[simp] theorem sKill_run : sKill is m A = kOut is (m A) := (rfl)
@[simp] theorem sKillB_run : sKillB is m A = m (killA is A) := (rfl)
@[simp] theorem kOut_nx : kOut is (some (.nx A)) = some (.nx (killA is A)) := (rfl)
@[simp] theorem kOut_rt : kOut is (some (.rt d A)) = some (.rt d A) := (rfl)
@[simp] theorem kOut_bk : kOut is (some (.bk A)) = some (.bk A) := (rfl)
@[simp] theorem kOut_ct : kOut is (some (.ct A)) = some (.ct A) := (rfl)
@[simp] theorem kOut_ite {c : Prop} [Decidable c] {a b : Option SOut} : kOut is (if c then a else b) = if c then kOut is a else kOut is b := by split <;> rfl
@[simp] theorem killA_nil : killA [] A = A := (rfl)
@[simp] theorem killA_cons {i : Nat} : killA (i :: is) A = killA is (A.set i none) := (rfl)
@[simp] theorem sFrz_run {i : Nat} : sFrz i m A = A[i]?.join.bind fun d => m (A.set i (some d.frz)) := by
  unfold sFrz
  cases h : A[i]? with
  | none => rfl
  | some o => cases o <;> rfl
@[simp] theorem sRetV_run {i : Nat} : sRetV i A = A[i]?.join.map fun d => .rt d (A.set i none) := by
  unfold sRetV
  cases h : A[i]? with
  | none => rfl
  | some o => cases o <;> rfl
@[simp] theorem pN_run {i : Nat} : pN i A = A[i]?.join.map fun d => (i, [], d) := by
  unfold pN
  cases h : A[i]? with
  | none => rfl
  | some o => cases o <;> rfl
/-! ### names, places -/
@[simp] theorem mT_run {m : Ev → Option D} : mT m A = (m A).bind fun d => match d with | .bl b => some b | _ => none := by
  unfold mT
  cases m A with
  | none => rfl
  | some d => cases d <;> rfl
def chD (g : Option D) (k : Option D) : Option D := match g with
  | some (.bl true) => k
  | some (.bl false) => some (.bl false)
  | _ => none
@[simp] theorem chD_bl {b : Bool} {k : Option D} : chD (some (.bl b)) k = if b = true then k else some (.bl false) := by cases b <;> rfl
@[simp] theorem mCh_run {g g' : D → D → Option D} {ma mb mc : Ev → Option D} : mCh g g' ma mb mc A = (ma A).bind fun x => (mb A).bind fun y => chD (g x y) ((mc A).bind fun z => g' y z) := by
  unfold mCh chD
  rfl
def fldD (c : Nat) (f : Str) : D → Option D
  | .obj _ c' fs xs => if c' = c then (fs.zip xs).lookup f else none
  | _ => none
@[simp] theorem mFld_run {c : Nat} {f : Str} {m : Ev → Option D} : mFld c f m A = (m A).bind (fldD c f) := by
  unfold mFld
  cases m A with
  | none => rfl
  | some d => cases d <;> rfl
def pFldD (c : Nat) (f : Str) (z : Nat × List Nat × D) : Option (Nat × List Nat × D) := match z.2.2 with
  | .obj true c' fs xs => if c' = c then (fs.idxOf? f).bind fun j => (xs[j]?).map fun e => (z.1, z.2.1 ++ [j], e) else none
  | _ => none
@[simp] theorem pFld_run {c : Nat} {f : Str} {p : Pl} : pFld c f p A = (p A).bind (pFldD c f) := by
  unfold pFld
  cases p A with
  | none => rfl
  | some z =>
    obtain ⟨i, π, d⟩ := z
    cases d <;> try rfl
    rename_i b c' fs xs
    cases b with
    | false => rfl
    | true =>
      simp only [Option.bind_some, pFldD]
      split
      · cases fs.idxOf? f <;> rfl
      · rfl
@[simp] theorem pKey_run {mk : Ev → Option D} {p : Pl} : pKey mk p A = (p A).bind fun z => (mk A).bind fun y => (keyIx z.2.2 y).bind fun j => (getP z.2.2 [j]).map fun e => (z.1, z.2.1 ++ [j], e) := (rfl)
theorem updP_run {i : Nat} {π : List Nat} {e : D} : updP A i π e = match A[i]?.join with | some d => A.set i (some (setP d π e)) | none => A := by
  unfold updP
  cases A[i]? with
  | none => rfl
  | some o => cases o <;> rfl
@[simp] theorem updP_zero {π : List Nat} {d e : D} : updP (some d :: A) 0 π e = some (setP d π e) :: A := (rfl)
@[simp] theorem updP_succ {i : Nat} {π : List Nat} {o : Option D} {e : D} : updP (o :: A) (i + 1) π e = o :: updP A i π e := by
  unfold updP
  rw [List.getElem?_cons_succ]
  cases A[i]? with
  | none => rfl
  | some o => cases o <;> rfl
@[simp] theorem getP_lst {j : Nat} {π : List Nat} {xs : List D} : getP (.lst true xs) (j :: π) = xs[j]?.bind fun e => getP e π := (rfl)
@[simp] theorem getP_dct {j : Nat} {π : List Nat} {ks : List Key} {xs : List D} : getP (.dct true ks xs) (j :: π) = xs[j]?.bind fun e => getP e π := (rfl)
@[simp] theorem setP_nil {d e : D} : setP d [] e = e := by cases d <;> rfl
@[simp] theorem getP_nil {d : D} : getP d [] = some d := by cases d <;> rfl
@[simp] theorem mOSome_run {m : Ev → Option D} : mOSome m A = (m A).bind fun d => match d with | .int i => some (some i) | _ => none := by
  unfold mOSome
  cases m A with
  | none => rfl
  | some d => cases d <;> rfl
@[simp] theorem sFldS_run {c : Nat} {f : Str} {p : Pl} {me : Ev → Option D} : sFldS c f p me A = (p A).bind fun z => (me A).bind fun y => match z.2.2 with
  | .obj true c' fs xs => if c' = c ∧ fs.length < 900 then some (.nx (updP A z.1 z.2.1 (.obj true c (putT fs xs f y).1 (putT fs xs f y).2))) else none
  | _ => none := rfl
@[simp] theorem sPut_run {p : Pl} {mk me : Ev → Option D} : sPut p mk me A = (me A).bind fun y => (p A).bind fun z => (mk A).bind fun k => (putKey z.2.2 k y).map fun d => .nx (updP A z.1 z.2.1 d) := (rfl)
section
variable {i : Int} {s : Str} {b : Bool} {xs : List D} {ks : List Key} {kt : List (List Key)} {c : Nat} {fs : List Str}
@[simp] theorem isN_non : isND .non .non = some (.bl true) := (rfl)
@[simp] theorem isN_int : isND (.int i) .non = some (.bl false) := (rfl)
@[simp] theorem isN_bl : isND (.bl b) .non = some (.bl false) := (rfl)
@[simp] theorem isN_str : isND (.str s) .non = some (.bl false) := (rfl)
@[simp] theorem isN_tup : isND (.tup xs) .non = some (.bl false) := (rfl)
@[simp] theorem isN_lst : isND (.lst b xs) .non = some (.bl false) := (rfl)
@[simp] theorem isN_dct : isND (.dct b ks xs) .non = some (.bl false) := (rfl)
@[simp] theorem isN_dtt : isND (.dtt b kt xs) .non = some (.bl false) := (rfl)
@[simp] theorem isN_obj : isND (.obj b c fs xs) .non = some (.bl false) := (rfl)
@[simp] theorem notN_non : notND .non .non = some (.bl false) := (rfl)
@[simp] theorem notN_int : notND (.int i) .non = some (.bl true) := (rfl)
@[simp] theorem notN_bl : notND (.bl b) .non = some (.bl true) := (rfl)
@[simp] theorem notN_str : notND (.str s) .non = some (.bl true) := (rfl)
@[simp] theorem notN_tup : notND (.tup xs) .non = some (.bl true) := (rfl)
@[simp] theorem notN_lst : notND (.lst b xs) .non = some (.bl true) := (rfl)
@[simp] theorem notN_dct : notND (.dct b ks xs) .non = some (.bl true) := (rfl)
@[simp] theorem notN_dtt : notND (.dtt b kt xs) .non = some (.bl true) := (rfl)
@[simp] theorem notN_obj : notND (.obj b c fs xs) .non = some (.bl true) := (rfl)
end
section
variable {b c : Bool} {xs ys : List D} {s : Str} {ks : List Key} {kt : List (List Key)} {i : Int}
@[simp] theorem items_lst : items' (.lst b xs) = some xs := (rfl)
@[simp] theorem items_tup : items' (.tup xs) = some xs := (rfl)
@[simp] theorem items_ktup : items' (.ktup xs) = some xs := (rfl)
@[simp] theorem items_str : items' (.str s) = some (s.cps.toList.map fun c => D.str ⟨#[c]⟩) := (rfl)
@[simp] theorem revD_lst : revD (.lst b xs) = if D.plainL xs = true then some (.lst true xs.reverse) else none := (rfl)
@[simp] theorem lstD_lst : lstD [.lst b xs] = if D.plainL xs = true then some (.lst true xs) else none := (rfl)
@[simp] theorem lstD_tup : lstD [.tup xs] = if D.plainL xs = true then some (.lst true xs) else none := (rfl)
@[simp] theorem lstD_dct : lstD [.dct b ks xs] = some (.lst true (ks.map keyV)) := by
  show some (D.lst true (ks.map fun k => match k with | .inl i => .int i | .inr s => .str s)) = _
  congr 2
@[simp] theorem tupleD_lst : tupleD [.lst b xs] = if D.plainL xs = true then some (.tup xs) else none := (rfl)
@[simp] theorem addD_lst : addD (.lst b xs) (.lst c ys) = if D.plainL xs = true ∧ D.plainL ys = true ∧ xs.length + ys.length ≤ sizeLine then some (.lst true (xs ++ ys)) else none := (rfl)
@[simp] theorem keysOf_dct : keysOf (.dct false ks xs) = some (ks.map keyV) := (rfl)
@[simp] theorem keysOf_dtt : keysOf (.dtt false kt xs) = some (kt.map fun k => .tup (k.map keyV)) := (rfl)
@[simp] theorem opExtend_lst : opExtend (.lst true xs) (.lst b ys) = if xs.length + ys.length < 1000000 ∧ D.plainL xs = true ∧ D.plainL ys = true then some (.non, .lst true (xs ++ ys)) else none := (rfl)
@[simp] theorem opClear_lst : opClear (.lst true xs) = some (.non, .lst true []) := (rfl)
@[simp] theorem opPop_lst : opPop (.lst true xs) = if D.plainL xs = true then (xs.getLast?).map fun y => (y, .lst true xs.dropLast) else none := (rfl)
@[simp] theorem sliceD_lst {lo hi : Option Int} : sliceD (.lst b xs) lo hi = if D.plainL xs = true then some (.lst true (cutD xs lo hi)) else none := (rfl)
@[simp] theorem sliceD_str {lo hi : Option Int} : sliceD (.str s) lo hi = if s.length ≤ sizeLine then some (.str (cutS s lo hi)) else none := (rfl)
@[simp] theorem sortedD_lst {ns : List Int} : sortedD [.lst b (ns.map D.int)] = some (.lst true ((sortI ns).map D.int)) := by
  show (intsD (ns.map D.int)).map _ = _
  rw [intsD_map]; rfl
@[simp] theorem minD_lst {ns : List Int} : minD [.lst b (ns.map D.int)] = (minL ns).map .int := by
  show (intsD (ns.map D.int)).bind _ = _
  rw [intsD_map]; rfl
@[simp] theorem maxD_lst {ns : List Int} : maxD [.lst b (ns.map D.int)] = (maxL ns).map .int := by
  show (intsD (ns.map D.int)).bind _ = _
  rw [intsD_map]; rfl
@[simp] theorem minD_two {j : Int} : minD [.int i, .int j] = some (.int (min i j)) := by
  show some (D.int (if j < i then j else i)) = _
  congr 2; split <;> omega
@[simp] theorem maxD_two {j : Int} : maxD [.int i, .int j] = some (.int (max i j)) := by
  show some (D.int (if j > i then j else i)) = _
  congr 2; split <;> omega
@[simp] theorem truth_int : truth (.int i) = some (i != 0) := (rfl)
@[simp] theorem truth_lst : truth (.lst b xs) = some (!xs.isEmpty) := (rfl)
@[simp] theorem truth_tup : truth (.tup xs) = some (!xs.isEmpty) := (rfl)
@[simp] theorem truth_non : truth .non = some false := (rfl)
end
/-- small enough for a product -/
theorem small64_of {i : Int} (h1 : -18446744073709551616 < i) (h2 : i < 18446744073709551616) : VI.small64 i = true := by
  unfold VI.small64
  simp only [decide_eq_true_eq]
  omega
@[simp] theorem small64_lit {i : Int} (h1 : -18446744073709551616 < i) (h2 : i < 18446744073709551616) : VI.small64 i = true := small64_of h1 h2
@[simp] theorem mulD_l {i j : Int} (h : VI.small64 i = true) : mulD (.int i) (.int j) = some (.int (i * j)) := by rw [mulD_int, h]; rfl
@[simp] theorem mulD_r {i j : Int} (h : VI.small64 j = true) : mulD (.int i) (.int j) = some (.int (i * j)) := by rw [mulD_int, h, Bool.or_true]; rfl
/-! ### calls -/
/-- what a look's call gives -/
def ap (g : List D → Option (D × Ev)) (ds : List D) : Option D := (g (D.frzL ds)).bind fun r => if D.plainL ds = true ∨ r.1.clean = true then some r.1 else none
@[simp] theorem mPos_run {g : List D → Option (D × Ev)} {ms : Ev → Option (List D)} : mPos g ms A = (ms A).bind (ap g) := (rfl)
theorem mPure_run {g : List D → Option (D × Ev)} {src : List Src} {cs : List D} {ms mk : Ev → Option (List D)} : mPure g src cs ms mk A = (ms A).bind fun ds => (mk A).bind fun zs => (g (gsel src (D.frzL ds) (D.frzL zs) cs)).bind fun r => if (D.plainL ds = true ∧ D.plainL zs = true) ∨ r.1.clean = true then some r.1 else none := (rfl)
/-- what a call gives, and leaves, whose q-th argument is lent -/
def apL (q : Nat) (g : List D → Option (D × Ev)) (ds : List D) : Option (D × D) := (g ds).bind fun r => r.2[q]?.join.map fun e => (r.1, e)
theorem backL_run {q : Nat} {z : Nat × List Nat × D} {r : D × Ev} : backL q A z r = r.2[q]?.join.map fun e => (r.1, updP A z.1 z.2.1 e) := by
  unfold backL
  cases r.2[q]? with
  | none => rfl
  | some o => cases o <;> rfl
theorem apL_back {q : Nat} {z : Nat × List Nat × D} {g : List D → Option (D × Ev)} {ds : List D} : (g ds).bind (backL q A z) = (apL q g ds).map fun r => (r.1, updP A z.1 z.2.1 r.2) := by
  unfold apL
  cases g ds with
  | none => rfl
  | some r =>
    simp only [Option.bind_some, backL_run]
    cases r.2[q]?.join <;> rfl
@[simp] theorem mLendF_run {q : Nat} {g : List D → Option (D × Ev)} {p : Pl} {ms : Ev → Option (List D)} : mLendF g q p ms A = (p A).bind fun z => (ms A).bind fun ds => (apL q g ds).map fun r => (r.1, updP A z.1 z.2.1 r.2) := by
  unfold mLendF
  simp only [apL_back]
@[simp] theorem mLendM_run {g : List D → Option (D × Ev)} {c : Nat} {f : Str} {src : List Src} {cs : List D} {p : Pl} {ms mk : Ev → Option (List D)} : mLendM g c f src cs p ms mk A =
    (p A).bind fun z => (ms A).bind fun ds => (mk A).bind fun zs => if isObj c f z.2.2 = true ∧ D.plainL ds = true ∧ D.plainL zs = true then (apL 0 g (z.2.2 :: gsel src (.non :: ds) zs cs)).map fun r => (r.1, updP A z.1 z.2.1 r.2) else none := by
  unfold mLendM
  simp only [apL_back]
@[simp] theorem mHere_run {p : Pl} {ms : Ev → Option (List D)} : mHere p ms A = (p A).bind fun z => (ms A).bind fun ds => if D.plainL ds = true then some (z.2.2 :: ds) else none := (rfl)
@[simp] theorem mThere_run {me : Ev → Option D} {ms : Ev → Option (List D)} : mThere me ms A = (me A).bind fun d => if d.plain = true then (ms A).map (d :: ·) else none := (rfl)
/-- a new object -/
def apM (g : List D → Option (D × Ev)) (c : Nat) (ds : List D) : Option D := (apL 0 g (.obj true c [] [] :: D.frzL ds)).bind fun r => match r.1 with
  | .non => if D.plainL ds = true ∨ r.2.clean = true then some r.2 else none
  | _ => none
@[simp] theorem mMake_run {g : List D → Option (D × Ev)} {c : Nat} {ms : Ev → Option (List D)} : mMake g c ms A = (ms A).bind (apM g c) := by
  unfold mMake apM apL
  cases ms A with
  | none => rfl
  | some ds =>
    simp only [Option.bind_some]
    cases g (.obj true c [] [] :: D.frzL ds) with
    | none => rfl
    | some r =>
      simp only [Option.bind_some]
      obtain ⟨d, A'⟩ := r
      cases h : A'[0]? with
      | none => cases d <;> simp [h]
      | some o => cases o <;> cases d <;> simp [h]
@[simp] theorem gsel_nil {α : Type} {us ws cs : List α} : gsel [] us ws cs = [] := (rfl)
@[simp] theorem gsel_p {α : Type} {us ws cs : List α} {i : Nat} {src : List Src} : gsel (.p i :: src) us ws cs = match us[i]? with | some a => a :: gsel src us ws cs | none => gsel src us ws cs := (rfl)
@[simp] theorem gsel_k {α : Type} {us ws cs : List α} {i : Nat} {src : List Src} : gsel (.k i :: src) us ws cs = match ws[i]? with | some a => a :: gsel src us ws cs | none => gsel src us ws cs := (rfl)
@[simp] theorem gsel_c {α : Type} {us ws cs : List α} {i : Nat} {src : List Src} : gsel (.c i :: src) us ws cs = match cs[i]? with | some a => a :: gsel src us ws cs | none => gsel src us ws cs := (rfl)
@[simp] theorem tOrE_run {t1 t2 : Ev → Option (Bool × Ev)} : tOrE t1 t2 A = (t1 A).bind fun r => if r.1 = true then some (true, r.2) else t2 r.2 := (rfl)
@[simp] theorem tAndE_run {t1 t2 : Ev → Option (Bool × Ev)} : tAndE t1 t2 A = (t1 A).bind fun r => if r.1 = true then t2 r.2 else some (false, r.2) := (rfl)
@[simp] theorem tNotE_run {t1 : Ev → Option (Bool × Ev)} : tNotE t1 A = (t1 A).map fun r => (!r.1, r.2) := (rfl)
@[simp] theorem tBlE_run {m : Ev → Option (D × Ev)} : tBlE m A = (m A).bind fun r => match r.1 with | .bl b => some (b, r.2) | _ => none := (rfl)
/-! ### places of written lists -/
section
variable {α : Type} {xs : List α} {a0 a1 a2 a3 a4 a5 a6 a7 a8 a9 : α}
@[simp] theorem at0 : atI (a0 :: xs) 0 = some a0 := by have := atI_nat (xs := a0 :: xs) (k := 0) (by simp); simpa using this
@[simp] theorem at1 : atI (a0 :: a1 :: xs) 1 = some a1 := by have := atI_nat (xs := a0 :: a1 :: xs) (k := 1) (by simp); simpa using this
@[simp] theorem at2 : atI (a0 :: a1 :: a2 :: xs) 2 = some a2 := by have := atI_nat (xs := a0 :: a1 :: a2 :: xs) (k := 2) (by simp); simpa using this
@[simp] theorem at3 : atI (a0 :: a1 :: a2 :: a3 :: xs) 3 = some a3 := by have := atI_nat (xs := a0 :: a1 :: a2 :: a3 :: xs) (k := 3) (by simp); simpa using this
@[simp] theorem at4 : atI (a0 :: a1 :: a2 :: a3 :: a4 :: xs) 4 = some a4 := by have := atI_nat (xs := a0 :: a1 :: a2 :: a3 :: a4 :: xs) (k := 4) (by simp); simpa using this
@[simp] theorem at5 : atI (a0 :: a1 :: a2 :: a3 :: a4 :: a5 :: xs) 5 = some a5 := by have := atI_nat (xs := a0 :: a1 :: a2 :: a3 :: a4 :: a5 :: xs) (k := 5) (by simp); simpa using this
@[simp] theorem at6 : atI (a0 :: a1 :: a2 :: a3 :: a4 :: a5 :: a6 :: xs) 6 = some a6 := by have := atI_nat (xs := a0 :: a1 :: a2 :: a3 :: a4 :: a5 :: a6 :: xs) (k := 6) (by simp); simpa using this
@[simp] theorem at7 : atI (a0 :: a1 :: a2 :: a3 :: a4 :: a5 :: a6 :: a7 :: xs) 7 = some a7 := by have := atI_nat (xs := a0 :: a1 :: a2 :: a3 :: a4 :: a5 :: a6 :: a7 :: xs) (k := 7) (by simp); simpa using this
@[simp] theorem at8 : atI (a0 :: a1 :: a2 :: a3 :: a4 :: a5 :: a6 :: a7 :: a8 :: xs) 8 = some a8 := by have := atI_nat (xs := a0 :: a1 :: a2 :: a3 :: a4 :: a5 :: a6 :: a7 :: a8 :: xs) (k := 8) (by simp); simpa using this
@[simp] theorem at9 : atI (a0 :: a1 :: a2 :: a3 :: a4 :: a5 :: a6 :: a7 :: a8 :: a9 :: xs) 9 = some a9 := by have := atI_nat (xs := a0 :: a1 :: a2 :: a3 :: a4 :: a5 :: a6 :: a7 :: a8 :: a9 :: xs) (k := 9) (by simp); simpa using this
@[simp] theorem atLast {a : α} : atI (xs ++ [a]) (-1) = some a := by
  have e : ixN (xs ++ [a]).length (-1) = some xs.length := by
    unfold ixN
    rw [if_neg (by omega), if_pos (by simp; omega)]
    simp; omega
  unfold atI
  rw [e]; simp
end
/-! ### ways that meet again -/
section
variable {c : Prop} [Decidable c]
@[simp] theorem ite_nx {A B : Ev} : (if c then some (SOut.nx A) else some (SOut.nx B)) = some (SOut.nx (if c then A else B)) := by split <;> rfl
@[simp] theorem ite_ev {a b : Option D} {A B : Ev} : (if c then a :: A else b :: B) = (if c then a else b) :: (if c then A else B) := by split <;> rfl
@[simp] theorem ite_someB {a b : Bool} : (if c then some a else some b) = some (if c then a else b) := by split <;> rfl
@[simp] theorem ite_some {a b : D} : (if c then some a else some b) = some (if c then a else b) := by split <;> rfl
@[simp] theorem ite_int {a b : Int} : (if c then D.int a else D.int b) = D.int (if c then a else b) := by split <;> rfl
@[simp] theorem ite_bl {a b : Bool} : (if c then D.bl a else D.bl b) = D.bl (if c then a else b) := by split <;> rfl
@[simp] theorem ite_str {a b : Str} : (if c then D.str a else D.str b) = D.str (if c then a else b) := by split <;> rfl
@[simp] theorem frz_ite {a b : D} : (if c then a else b).frz = if c then a.frz else b.frz := by split <;> rfl
@[simp] theorem plain_ite {a b : D} : (if c then a else b).plain = if c then a.plain else b.plain := by split <;> rfl
@[simp] theorem ite_lst {m : Bool} {a b : List D} : (if c then D.lst m a else D.lst m b) = D.lst m (if c then a else b) := by split <;> rfl
end
/-! ### a def's run -/
def outR (o : Option SOut) : Option (D × Ev) := match o with
  | some (.rt d A) => some (d, A)
  | some (.nx A) => some (.non, A)
  | _ => none
@[simp] theorem outR_rt : outR (some (.rt d A)) = some (d, A) := (rfl)
@[simp] theorem outR_nx : outR (some (.nx A)) = some (.non, A) := (rfl)
@[simp] theorem outR_none : outR none = none := (rfl)
@[simp] theorem outR_ite {c : Prop} [Decidable c] {a b : Option SOut} : outR (if c then a else b) = if c then outR a else outR b := by split <;> rfl
def outV (o : Option SOut) : Option D := match o with
  | some (.rt d A) => some d
  | some (.nx A) => some .non
  | _ => none
@[simp] theorem outV_rt : outV (some (.rt d A)) = some d := (rfl)
@[simp] theorem outV_nx : outV (some (.nx A)) = some .non := (rfl)
@[simp] theorem outV_none : outV none = none := (rfl)
@[simp] theorem outV_ite {c : Prop} [Decidable c] {a b : Option SOut} : outV (if c then a else b) = if c then outV a else outV b := by split <;> rfl
theorem outV_some {r : D} (h : outV o = some r) : ∃ A, outR o = some (r, A) := by
  unfold outV at h
  split at h
  · cases h; exact ⟨_, rfl⟩
  · cases h; exact ⟨_, rfl⟩
  · cases h
def outL (q : Nat) (o : Option SOut) : Option (D × D) := match o with
  | some (.rt d A) => A[q]?.join.map fun e => (d, e)
  | some (.nx A) => A[q]?.join.map fun e => (.non, e)
  | _ => none
@[simp] theorem outL_rt {q : Nat} : outL q (some (.rt d A)) = A[q]?.join.map fun e => (d, e) := (rfl)
@[simp] theorem outL_nx {q : Nat} : outL q (some (.nx A)) = A[q]?.join.map fun e => (.non, e) := (rfl)
@[simp] theorem outL_none {q : Nat} : outL q none = none := (rfl)
@[simp] theorem outL_ite {q : Nat} {c : Prop} [Decidable c] {a b : Option SOut} : outL q (if c then a else b) = if c then outL q a else outL q b := by split <;> rfl
theorem outL_eq {q : Nat} : ((outR o).bind fun x => x.2[q]?.join.map fun e => (x.1, e)) = outL q o := by
  unfold outR outL
  split <;> rfl
def env0 (n N : Nat) (ds : List D) : Ev := ds.map some ++ List.replicate (N - n) none
theorem runF_run {n N : Nat} {ds : List D} (h : ds.length = n) : runF n N m ds = outR (m (env0 n N ds)) := by
  unfold runF env0 outR
  exact if_pos h
/-- a look's call runs -/
theorem ap_run {n N : Nat} {ds : List D} {r : D} (h : ds.length = n) (hr : outV (m (env0 n N (D.frzL ds))) = some r) (hc : D.plainL ds = true ∨ r.clean = true) : ap (runF n N m) ds = some r := by
  unfold ap
  rw [runF_run (by rw [frzL_len]; exact h)]
  obtain ⟨A, hA⟩ := outV_some hr
  rw [hA]; simp only [Option.bind_some]; rw [if_pos hc]
theorem apL_run {n N q : Nat} {ds : List D} {r : D × D} (h : ds.length = n) (hr : outL q (m (env0 n N ds)) = some r) : apL q (runF n N m) ds = some r := by
  unfold apL
  rw [runF_run h, outL_eq]; exact hr
theorem apM_run {g : List D → Option (D × Ev)} {c : Nat} {ds : List D} {e : D} (h : apL 0 g (.obj true c [] [] :: D.frzL ds) = some (.non, e)) (hc : D.plainL ds = true ∨ e.clean = true) : apM g c ds = some e := by
  unfold apM
  rw [h]; simp only [Option.bind_some]; rw [if_pos hc]
theorem law_run {n N : Nat} {ds : List D} {r : D} (h : ds.length = n) (hr : outV (m (env0 n N ds)) = some r) : ∃ A, runF n N m ds = some (r, A) := by
  rw [runF_run h]
  exact outV_some hr
/-! ### loops -/
def forB (g : D → Ev → Option Ev) (mb : SM) (ds : List D) (A : Ev) : Option SOut := forL (fun d A => (g d A).bind mb) ds A
@[simp] theorem sFor_run {mi : Ev → Option (List D)} {g : D → Ev → Option Ev} {mb : SM} : sFor mi g mb A = (mi A).bind fun ds => forB g mb ds A := (rfl)
@[simp] theorem forB_nil {g : D → Ev → Option Ev} {mb : SM} : forB g mb [] A = some (.nx A) := (rfl)
theorem forB_cons {g : D → Ev → Option Ev} {mb : SM} {ds : List D} : forB g mb (d :: ds) A = match (g d A).bind mb with
    | some (.nx A') => forB g mb ds A'
    | some (.ct A') => forB g mb ds A'
    | some (.bk A') => some (.nx A')
    | r => r := rfl
/-- a turn's end that goes on -/
def Goes (o : Option SOut) (A : Ev) : Prop := o = some (.nx A) ∨ o = some (.ct A)
theorem forB_goes {g : D → Ev → Option Ev} {mb : SM} {ds : List D} {A' : Ev} (h : Goes ((g d A).bind mb) A') : forB g mb (d :: ds) A = forB g mb ds A' := by
  rw [forB_cons]
  rcases h with h | h <;> rw [h]
/-- a loop that folds -/
theorem for_fold {α β : Type} {g : D → Ev → Option Ev} {mb : SM} (enc : α → D) (E : β → Ev) (step : β → α → β) : ∀ (xs : List α) (s : β), (∀ x ∈ xs, ∀ s, Goes ((g (enc x) (E s)).bind mb) (E (step s x))) → forB g mb (xs.map enc) (E s) = some (.nx (E (xs.foldl step s)))
  | [], s, _ => rfl
  | x :: xs, s, h => by
    rw [List.map_cons, forB_goes (h x (by simp) s), for_fold enc E step xs _ fun y hy => h y (by simp [hy])]
    rfl
/-- a loop by its turns: E i is the state ahead of the i-th -/
theorem for_det {α : Type} {g : D → Ev → Option Ev} {mb : SM} (enc : α → D) : ∀ (E : Nat → Ev) (xs : List α), (∀ i x, xs[i]? = some x → Goes ((g (enc x) (E i)).bind mb) (E (i + 1))) → forB g mb (xs.map enc) (E 0) = some (.nx (E xs.length))
  | E, [], _ => rfl
  | E, x :: xs, h => by
    rw [List.map_cons, forB_goes (h 0 x rfl)]
    exact for_det enc (fun i => E (i + 1)) xs fun i y hy => h (i + 1) y (by simpa using hy)
/-- a loop with an invariant -/
theorem for_inv {α β : Type} {g : D → Ev → Option Ev} {mb : SM} (enc : α → D) (E : β → Ev) : ∀ (I : Nat → β → Prop) (xs : List α) (s : β), I 0 s → (∀ i x s, xs[i]? = some x → I i s → ∃ s', Goes ((g (enc x) (E s)).bind mb) (E s') ∧ I (i + 1) s') →
    ∃ s', forB g mb (xs.map enc) (E s) = some (.nx (E s')) ∧ I xs.length s'
  | I, [], s, h0, _ => ⟨s, rfl, h0⟩
  | I, x :: xs, s, h0, h => by
    obtain ⟨s1, h1, h2⟩ := h 0 x s rfl h0
    rw [List.map_cons, forB_goes h1]
    exact for_inv enc E (fun i => I (i + 1)) xs s1 h2 fun i y s hy hi => h (i + 1) y s (by simpa using hy) hi
/-- .. by turns, with an invariant -/
theorem for_invI {α β : Type} {g : D → Ev → Option Ev} {mb : SM} (enc : α → D) : ∀ (E : Nat → β → Ev) (I : Nat → β → Prop) (xs : List α) (s : β), I 0 s → (∀ i x s, xs[i]? = some x → I i s → ∃ s', Goes ((g (enc x) (E i s)).bind mb) (E (i + 1) s') ∧ I (i + 1) s') →
    ∃ s', forB g mb (xs.map enc) (E 0 s) = some (.nx (E xs.length s')) ∧ I xs.length s'
  | E, I, [], s, h0, _ => ⟨s, rfl, h0⟩
  | E, I, x :: xs, s, h0, h => by
    obtain ⟨s1, h1, h2⟩ := h 0 x s rfl h0
    rw [List.map_cons, forB_goes h1]
    exact for_invI enc (fun i => E (i + 1)) (fun i => I (i + 1)) xs s1 h2 fun i y s hy hi => h (i + 1) y s (by simpa using hy) hi
/-- a loop that looks for the first item with p, and is left there -/
theorem for_find {α : Type} {g : D → Ev → Option Ev} {mb : SM} (enc : α → D) (E : Ev) (p : α → Bool) (r : α → Option SOut) : ∀ (xs : List α), (∀ x ∈ xs, p x = false → Goes ((g (enc x) E).bind mb) E) →
    (∀ x ∈ xs, p x = true → (g (enc x) E).bind mb = r x ∧ ∃ d A, r x = some (.rt d A)) → forB g mb (xs.map enc) E = match xs.find? p with | some x => r x | none => some (.nx E)
  | [], _, _ => rfl
  | x :: xs, h1, h2 => by
    rw [List.map_cons]
    cases hp : p x with
    | false =>
      rw [forB_goes (h1 x (by simp) hp), List.find?_cons_of_neg (by simp [hp])]
      exact for_find enc E p r xs (fun y hy => h1 y (by simp [hy])) fun y hy => h2 y (by simp [hy])
    | true =>
      obtain ⟨e, d, A, hr⟩ := h2 x (by simp) hp
      rw [List.find?_cons_of_pos hp, forB_cons, e, hr]; exact hr.symm
end
/-! ### comprehensions -/
def lcB (c : D → Option (Option D)) (ds : List D) : Option (List D) := lcRun c ds
@[simp] theorem mLcN_run {mi : Ev → Option (List D)} {c : Ev → D → Option (Option D)} {vs : List Nat} {A : Ev} : mLcN mi c vs A = (mi A).bind fun ds => if ds.length ≤ 100000 then (lcB (c (killA vs A)) ds).map fun xs => .lst true xs else none := (rfl)
@[simp] theorem lcB_nil {c : D → Option (Option D)} : lcB c [] = some [] := (rfl)
theorem lcB_cons {c : D → Option (Option D)} {d : D} {ds : List D} : lcB c (d :: ds) = (c d).bind fun o => (lcB c ds).map fun r => o.toList ++ r := (rfl)
@[simp] theorem lcItem_run {g : D → Ev → Option Ev} {mt : Ev → Option Bool} {me : Ev → Option D} {A : Ev} {d : D} : lcItem g mt me A d = (g d A).bind fun A' => (mt A').bind fun b => if b = true then (me A').map some else some none := (rfl)
@[simp] theorem mYes_run {A : Ev} : mYes A = some true := (rfl)
/-- every item gives one -/
theorem lc_map {α : Type} {c : D → Option (Option D)} (enc : α → D) (f : α → D) : ∀ (xs : List α), (∀ x ∈ xs, c (enc x) = some (some (f x))) → lcB c (xs.map enc) = some (xs.map f)
  | [], _ => rfl
  | x :: xs, h => by
    rw [List.map_cons, lcB_cons, h x (by simp), lc_map enc f xs fun y hy => h y (by simp [hy])]
    rfl
/-- .. those with p -/
theorem lc_filter {α : Type} {c : D → Option (Option D)} (enc : α → D) (p : α → Bool) (f : α → D) : ∀ (xs : List α), (∀ x ∈ xs, c (enc x) = some (if p x = true then some (f x) else none)) → lcB c (xs.map enc) = some ((xs.filter p).map f)
  | [], _ => rfl
  | x :: xs, h => by
    rw [List.map_cons, lcB_cons, h x (by simp), lc_filter enc p f xs fun y hy => h y (by simp [hy])]
    cases hp : p x <;> simp [hp]
/-- some values with P -/
theorem lc_ex {α β : Type} {c : D → Option (Option D)} (enc : α → D) (enc' : β → D) (P : β → Prop) : ∀ (xs : List α), (∀ x ∈ xs, ∃ y, c (enc x) = some (some (enc' y)) ∧ P y) → ∃ ys : List β, ys.length = xs.length ∧ (∀ y ∈ ys, P y) ∧ lcB c (xs.map enc) = some (ys.map enc')
  | [], _ => ⟨[], rfl, by simp, rfl⟩
  | x :: xs, h => by
    obtain ⟨y, h1, h2⟩ := h x (by simp)
    obtain ⟨ys, h3, h4, h5⟩ := lc_ex enc enc' P xs fun z hz => h z (by simp [hz])
    refine ⟨y :: ys, by simp [h3], fun z hz => ?_, ?_⟩
    · rcases List.mem_cons.mp hz with rfl | hz
      · exact h2
      · exact h4 z hz
    · rw [List.map_cons, lcB_cons, h1, h5]; rfl
section
variable {b : Bool} {ks : List Key} {kt : List (List Key)} {xs : List D}
@[simp] theorem opClearD_dct : opClearD (.dct true ks xs) = some (.non, .dct true [] []) := (rfl)
@[simp] theorem opClearD_dtt : opClearD (.dtt true kt xs) = some (.non, .dtt true [] []) := (rfl)
@[simp] theorem lstDT_dtt : lstDT [.dtt b kt xs] = some (.lst true (kt.map fun k => .tup (k.map keyV))) := (rfl)
@[simp] theorem tyD_dct : tyD (.dct b ks xs) = some "dict" := (rfl)
@[simp] theorem tyD_dtt : tyD (.dtt b kt xs) = some "dict" := (rfl)
@[simp] theorem kit_dd : kitB "dict" "dict" = some true := by decide +kernel
end
@[simp] theorem isBD_bl {a b : Bool} : isBD (.bl a) (.bl b) = some (.bl (decide (a = b))) := (rfl)
@[simp] theorem notBD_bl {a b : Bool} : notBD (.bl a) (.bl b) = some (.bl (!decide (a = b))) := (rfl)
theorem lt_1900 {n : Nat} (h : n < 1000000) : n < 2 ^ 1900 := Nat.lt_of_lt_of_le h (Nat.le_trans (show 1000000 ≤ 2 ^ 20 by decide) (Nat.pow_le_pow_right (by decide) (by decide)))
@[simp] theorem mUn_run {A : Ev} {g : D → Option D} {m : Ev → Option D} : mUn g m A = (m A).bind g := (rfl)
@[simp] theorem upperD_str {s : Str} : upperD (.str s) = if s.length ≤ 1000000 then some (.str (Txt.upper s)) else none := (rfl)
@[simp] theorem strD_str {s : Str} : strD [.str s] = some (.str s) := (rfl)
@[simp] theorem strD_int {i : Int} (h : i.natAbs < 1000000) : strD [.int i] = some (.str (toString i)) := by
  unfold strD
  exact if_pos (lt_1900 h)
@[simp] theorem fmtD_str {s : Str} : fmtD (.str s) = if s.length ≤ sizeLine then some (.str s) else none := (rfl)
@[simp] theorem fmtD_int {i : Int} (h : i.natAbs < 1000000) : fmtD (.int i) = some (.str (toString i)) := by
  unfold fmtD
  exact if_pos (lt_1900 h)
@[simp] theorem anyD_bl {b : Bool} {bs : List Bool} : anyD [.lst b (bs.map D.bl)] = some (.bl (bs.any id)) := by
  show (blsD (bs.map D.bl)).map _ = _
  rw [blsD_map]; rfl
@[simp] theorem allD_bl {b : Bool} {bs : List Bool} : allD [.lst b (bs.map D.bl)] = some (.bl (bs.all id)) := by
  show (blsD (bs.map D.bl)).map _ = _
  rw [blsD_map]; rfl
/-! ### negation, dict(..), index, dict comprehensions -/
@[simp] theorem neg_run {m : Ev → Option D} {A : Ev} : mNeg m A = (m A).bind negD := (rfl)
@[simp] theorem negD_int {i : Int} : negD (.int i) = some (.int (-i)) := (rfl)
@[simp] theorem mDcN_run {mi : Ev → Option (List D)} {c : Ev → D → Option (Option (Key × D))} {vs : List Nat} {A : Ev} : mDcN mi c vs A = (mi A).bind fun ds => if ds.length ≤ 100000 then (dcRun (c (wipeA A vs)) ds).bind fun ps => if (ps.map (·.1)).Nodup then some (.dct true (ps.map (·.1)) (ps.map (·.2))) else none else none := (rfl)
@[simp] theorem dcItem_run {g : D → Ev → Option Ev} {mt : Ev → Option Bool} {mk me : Ev → Option D} {A : Ev} {d : D} : dcItem g mt mk me A d = (g d A).bind fun A' => (mt A').bind fun b => if b = true then (mk A').bind fun y => (keyD y).bind fun k => (me A').map fun z => some (k, z) else some none := (rfl)
@[simp] theorem dcRun_nil {f : D → Option (Option (Key × D))} : dcRun f [] = some [] := (rfl)
theorem dcRun_cons {f : D → Option (Option (Key × D))} {d : D} {ds : List D} : dcRun f (d :: ds) = (f d).bind fun o => (dcRun f ds).map fun r => o.toList ++ r := (rfl)
theorem dc_map {α : Type} {c : D → Option (Option (Key × D))} (enc : α → D) (k : α → Key) (f : α → D) : ∀ (xs : List α), (∀ x ∈ xs, c (enc x) = some (some (k x, f x))) → dcRun c (xs.map enc) = some (xs.map fun x => (k x, f x))
  | [], _ => rfl
  | x :: xs, h => by
    rw [List.map_cons, dcRun_cons, h x (by simp), dc_map enc k f xs fun y hy => h y (by simp [hy])]
    rfl
end VI
set_option Elab.async false
set_option linter.all false
set_option maxRecDepth 100000
set_option autoImplicit false
namespace VI
open PySem L2
/- 0 _law_cell_here, 1 _law_count, 2 _law_row_here, 3 _law_rest, 4 _law_mixed, 5 _law_k -/
def l1_d_law_row : SM :=
    (sKill [5] (sIf (mT (mOp ltD (mCall absD (mCons (mV 0) mNil)) (mOp powD (mC (D.int 10)) (mC (D.int 18)))))
    (sSeq (sAsg 4 (mOp modD (mCall intD (mCons (mOp addD (mOp mulD (mV 4) (mC (D.int 16807))) (mC (D.int 40692))) mNil)) (mC (D.int 2147483399))))
    (sEff (bMeth1 (pN 2) (mOp modD (mOp fdivD (mV 4) (mC (D.int 11))) (mC (D.int 1000))) opAppend)))
    (sSeq (sEff (bMeth1 (pN 2) (mOp modD (mCall intD (mCons (mV 3) mNil)) (mC (D.int 1000))) opAppend))
    (sAsg 3 (mOp fdivD (mV 3) (mC (D.int 1000)))))))
def b_d_law_row : SM :=
    (sSeq (sAsg 2 (mLst mNil))
    (sSeq (sAsg 3 (mCall absD (mCons (mV 0) mNil)))
    (sSeq (sAsg 4 (mOp modD (mCall intD (mCons (mOp addD (mOp mulD (mV 0) (mC (D.int 48271))) (mC (D.int 17))) mNil)) (mC (D.int 2147483647))))
    (sSeq (sKill [0, 1, 4, 3] (sFor (mRng1 (mCons (mV 1) mNil)) (tgN 5) l1_d_law_row))
    (sRetV 2)))))
def f_d_law_row : List D → Option (D × Ev) := runF 2 6 b_d_law_row
/- 0 _law_script, 1 _law_k -/
def b_d_law_cell : SM :=
    (sSeq (sKill [1, 0] (sIf (mT (mOp ltD (mV 1) (mCall lenD (mCons (mV 0) mNil))))
    (sRet (mP (mOp subscr (mV 0) (mV 1))))
    sNx))
    (sRet (mC (D.int 0))))
def f_d_law_cell : List D → Option (D × Ev) := runF 2 2 b_d_law_cell
/- 0 _law_row_here, 1 _law_count, 2 _law_names_here, 3 _law_k, 4 _law_name, 5 _law_at, 6 _law_letter, 7 _law_place -/
def l1_d_law_names : SM :=
    (sSeq (sKill [5] (sAsg 7 (mOp modD (mCall intD (mCons (mOp addD (mOp addD (mOp mulD (mOp subscr (mV 0) (mV 3)) (mOp addD (mV 5) (mC (D.int 1)))) (mOp mulD (mC (D.int 7)) (mV 5))) (mV 3)) mNil)) (mC (D.int 26)))))
    (sKill [7] (sAsg 4 (mOp addD (mV 4) (mOp subscr (mC (D.str "abcdefghijklmnopqrstuvwxyz")) (mV 7))))))
def l2_d_law_names : SM :=
    (sKill [6] (sIf (mT (mOp inD (mV 4) (mV 2)))
    (sAsg 4 (mOp mulD (mV 6) (mOp addD (mV 3) (mC (D.int 1)))))
    sNx))
def l3_d_law_names : SM :=
    (sSeq (sAsg 4 (mC (D.str "")))
    (sSeq (sFor (mRng1 (mCons (mOp addD (mC (D.int 1)) (mOp modD (mCall intD (mCons (mOp subscr (mV 0) (mV 3)) mNil)) (mC (D.int 8)))) mNil)) (tgN 5) l1_d_law_names)
    (sSeq (sKill [3] (sFor (mItems' (mC (D.str "stuvwxyz"))) (tgN 6) l2_d_law_names))
    (sFrz 4 (sKill [4] (sEff (bMeth1 (pN 2) (mP (mV 4)) opAppend)))))))
def b_d_law_names : SM :=
    (sSeq (sAsg 2 (mLst mNil))
    (sSeq (sKill [1, 0] (sFor (mRng1 (mCons (mV 1) mNil)) (tgN 3) l3_d_law_names))
    (sRetV 2)))
def f_d_law_names : List D → Option (D × Ev) := runF 2 8 b_d_law_names
/- 0 _law_digit, 1 _law_one, 2 _law_two, 3 _law_shortest, 4 _law_limit -/
def b_d_law_span_v2 : SM :=
    (sSeq (sKill [1] (sAsg 3 (mOp addD (mC (D.int 1)) (mOp modD (mCall intD (mCons (mV 1) mNil)) (mOp subscr (mLst (mCons (mC (D.int 6)) (mCons (mC (D.int 20)) (mCons (mC (D.int 100)) (mCons (mC (D.int 999)) mNil))))) (mOp modD (mCall intD (mCons (mV 0) mNil)) (mC (D.int 4))))))))
    (sSeq (sKill [0] (sAsg 4 (mP (mOp subscr (mLst (mCons (mC (D.int 1)) (mCons (mC (D.int 6)) (mCons (mC (D.int 40)) (mCons (mC (D.int 999)) mNil))))) (mOp modD (mOp fdivD (mCall intD (mCons (mV 0) mNil)) (mC (D.int 4))) (mC (D.int 4)))))))
    (sFrz 4 (sRet (mLst (mCons (mP (mV 3)) (mCons (mOp addD (mV 3) (mOp modD (mCall intD (mCons (mV 2) mNil)) (mCall minD (mCons (mLst (mCons (mP (mV 4)) (mCons (mOp subD (mC (D.int 1000)) (mV 3)) mNil))) mNil)))) mNil)))))))
def f_d_law_span_v2 : List D → Option (D × Ev) := runF 3 5 b_d_law_span_v2
/- 0 self, 1 dawn -/
def b_m_Network_ddinit : SM :=
    (sSeq (sIf (mNot (mT (mCh leD leD (mC (D.int 1)) (mV 1) (mC (D.int 100)))))
    (fun _ => none)
    sNx)
    (sSeq (sKill [1] (sFldS 0 "dawn" (pN 0) (mP (mV 1))))
    (sSeq (sFldS 0 "names" (pN 0) (mLst mNil))
    (sSeq (sFldS 0 "watches" (pN 0) (mC (D.dct true [] [])))
    (sSeq (sFldS 0 "needs" (pN 0) (mC (D.dct true [] [])))
    (sSeq (sFldS 0 "spans" (pN 0) (mC (D.dtt true [] [])))
    (sFldS 0 "into" (pN 0) (mC (D.dct true [] [])))))))))
def f_m_Network_ddinit : List D → Option (D × Ev) := runF 2 2 b_m_Network_ddinit
/- 0 name, 1 char -/
def l1_d_is_name : SM :=
    (sKill [1] (sIf (mT (mOp ninD (mV 1) (mC (D.str "abcdefghijklmnopqrstuvwxyz"))))
    (sRet (mC (D.bl false)))
    sNx))
def b_d_is_name : SM :=
    (sSeq (sIf (mNot (mT (mCh leD leD (mC (D.int 1)) (mCall lenD (mCons (mV 0) mNil)) (mC (D.int 8)))))
    (sRet (mC (D.bl false)))
    sNx)
    (sSeq (sKill [0] (sFor (mItems' (mP (mV 0))) (tgN 1) l1_d_is_name))
    (sRet (mC (D.bl true)))))
def f_d_is_name : List D → Option (D × Ev) := runF 1 2 b_d_is_name
/- 0 self, 1 name, 2 lookout, 3 need -/
def b_m_Network_add_keeper : SM :=
    (sSeq (sIf (mNot (mTr (mPos f_d_is_name (mCons (mV 1) mNil))))
    (fun _ => none)
    sNx)
    (sSeq (sIf (mT (mOp inD (mV 1) (mFld 0 "needs" (mV 0))))
    (fun _ => none)
    sNx)
    (sSeq (sIf (mT (mOp geD (mCall lenD (mCons (mFld 0 "names" (mV 0)) mNil)) (mC (D.int 8))))
    (fun _ => none)
    sNx)
    (sSeq (sIf (mNot (mT (mCh leD leD (mC (D.int 1)) (mV 3) (mC (D.int 8)))))
    (fun _ => none)
    sNx)
    (sSeq (sEff (bMeth1 (pFld 0 "names" (pN 0)) (mP (mV 1)) opAppend))
    (sSeq (sKill [2] (sPut (pFld 0 "watches" (pN 0)) (mV 1) (mP (mV 2))))
    (sSeq (sKill [3] (sPut (pFld 0 "needs" (pN 0)) (mV 1) (mP (mV 3))))
    (sKill [1] (sPut (pFld 0 "into" (pN 0)) (mV 1) (mLst mNil))))))))))
def f_m_Network_add_keeper : List D → Option (D × Ev) := runF 4 4 b_m_Network_add_keeper
/- 0 self, 1 name -/
def b_m_Network_need_keeper : SM :=
    (sKill [1, 0] (sIf (mT (mOp ninD (mV 1) (mFld 0 "needs" (mV 0))))
    (fun _ => none)
    sNx))
def f_m_Network_need_keeper : List D → Option (D × Ev) := runF 2 2 b_m_Network_need_keeper
/- 0 self, 1 seen, 2 viewer, 3 least, 4 most -/
def b_m_Network_add_line : SM :=
    (sSeq (sExp (mPos f_m_Network_need_keeper (mRecv 0 "need_keeper" (mV 0) (mCons (mV 1) mNil))))
    (sSeq (sExp (mPos f_m_Network_need_keeper (mRecv 0 "need_keeper" (mV 0) (mCons (mV 2) mNil))))
    (sSeq (sIf (mT (mOp eqD (mV 1) (mV 2)))
    (fun _ => none)
    sNx)
    (sSeq (sIf (mT (mOp inD (mTup (mCons (mP (mV 1)) (mCons (mP (mV 2)) mNil))) (mFld 0 "spans" (mV 0))))
    (fun _ => none)
    sNx)
    (sSeq (sIf (mNot (mT (mCh leD leD (mC (D.int 1)) (mV 3) (mC (D.int 999)))))
    (fun _ => none)
    sNx)
    (sSeq (sIf (mAnd (mT (mOp notND (mV 4) (mC D.non))) (mNot (mT (mCh leD leD (mV 3) (mV 4) (mC (D.int 999))))))
    (fun _ => none)
    sNx)
    (sSeq (sPut (pFld 0 "spans" (pN 0)) (mTup (mCons (mP (mV 1)) (mCons (mP (mV 2)) mNil))) (mTup (mCons (mP (mV 3)) (mCons (mP (mV 4)) mNil))))
    (sKill [3, 4, 1, 2] (sEff (bMeth1 (pKey (mV 2) (pFld 0 "into" (pN 0))) (mTup (mCons (mP (mV 1)) (mCons (mP (mV 3)) (mCons (mP (mV 4)) mNil)))) opAppend))))))))))
def f_m_Network_add_line : List D → Option (D × Ev) := runF 5 5 b_m_Network_add_line
/- 0 _law_case, 1 _law_network_here, 2 _law_k, 3 _law_line -/
def l1_d_law_network_v2 : SM :=
    (sKill [2] (sEff (mLendM f_m_Network_add_keeper 0 "add_keeper" [.p 1, .k 0, .k 1] [] (pN 1) (mCons (mOp subscr (mOp subscr (mV 0) (mC (D.int 1))) (mV 2)) mNil) (mCons (mOp subscr (mOp subscr (mV 0) (mC (D.int 2))) (mV 2)) (mCons (mOp subscr (mOp subscr (mV 0) (mC (D.int 3))) (mV 2)) mNil)))))
def l2_d_law_network_v2 : SM :=
    (sKill [3] (sEff (mLendM f_m_Network_add_line 0 "add_line" [.p 1, .p 2, .k 0, .k 1] [] (pN 1) (mCons (mOp subscr (mV 3) (mC (D.int 0))) (mCons (mOp subscr (mV 3) (mC (D.int 1))) mNil)) (mCons (mOp subscr (mV 3) (mC (D.int 2))) (mCons (mOp subscr (mV 3) (mC (D.int 3))) mNil)))))
def b_d_law_network_v2 : SM :=
    (sSeq (sAsg 1 (mMake f_m_Network_ddinit 0 (mCons (mOp subscr (mV 0) (mC (D.int 0))) mNil)))
    (sSeq (sFor (mRng1 (mCons (mCall lenD (mCons (mOp subscr (mV 0) (mC (D.int 1))) mNil)) mNil)) (tgN 2) l1_d_law_network_v2)
    (sSeq (sKill [0] (sFor (mItems' (mP (mOp subscr (mV 0) (mC (D.int 4))))) (tgN 3) l2_d_law_network_v2))
    (sRetV 1))))
def f_d_law_network_v2 : List D → Option (D × Ev) := runF 1 4 b_d_law_network_v2
/- 0 _law_found -/
def b_d_law_is_integer : SM :=
    (sRet (mAndV (mIsi "int" (mV 0)) (mNotV (mIsi "bool" (mV 0)))))
def f_d_law_is_integer : List D → Option (D × Ev) := runF 1 1 b_d_law_is_integer
/- 0 self, 1 name -/
def b_m_Network_need_of : SM :=
    (sSeq (sExp (mPos f_m_Network_need_keeper (mRecv 0 "need_keeper" (mV 0) (mCons (mV 1) mNil))))
    (sRet (mP (mOp subscr (mFld 0 "needs" (mV 0)) (mV 1)))))
def f_m_Network_need_of : List D → Option (D × Ev) := runF 2 2 b_m_Network_need_of
/- 0 lines, 1 table, 2 need, 3 dawn, 4 moment, 5 dim, 6 seen, 7 least, 8 most -/
def l1_d_moment_along : SM :=
    (sKill [7, 8, 6] (sIf (mT (mOp isND (mV 8) (mC D.non)))
    (sEff (bMeth1 (pN 5) (mOp addD (mOp subscr (mV 1) (mV 6)) (mV 7)) opAppend))
    (sAsg 4 (mCall minD (mCons (mV 4) (mCons (mOp addD (mOp subscr (mV 1) (mV 6)) (mV 7)) mNil))))))
def b_d_moment_along : SM :=
    (sSeq (sKill [3] (sAsg 4 (mP (mV 3))))
    (sSeq (sAsg 5 (mLst mNil))
    (sSeq (sKill [0, 1] (sFor (mItems' (mP (mV 0))) (tgTup 3 (tgCons (tgN 6) (tgCons (tgN 7) (tgCons (tgN 8) tgNil)))) l1_d_moment_along))
    (sSeq (sKill [5, 2] (sIf (mT (mOp geD (mCall lenD (mCons (mV 5) mNil)) (mV 2)))
    (sAsg 4 (mCall minD (mCons (mV 4) (mCons (mOp subscr (mCall sortedD (mCons (mV 5) mNil)) (mOp subD (mV 2) (mC (D.int 1)))) mNil))))
    sNx))
    (sRetV 4)))))
def f_d_moment_along : List D → Option (D × Ev) := runF 4 9 b_d_moment_along
/- 0 self, 1 viewer -/
def b_m_Network_lines_to : SM :=
    (sRet (mCall lstD (mCons (mOp subscr (mFld 0 "into" (mV 0)) (mV 1)) mNil)))
def f_m_Network_lines_to : List D → Option (D × Ev) := runF 2 2 b_m_Network_lines_to
/- 0 network, 1 table, 2 name, 3 need -/
def b_d_soonest : SM :=
    (sSeq (sAsg 3 (mPos f_m_Network_need_of (mRecv 0 "need_of" (mV 0) (mCons (mV 2) mNil))))
    (sRet (mPos f_d_moment_along (mCons (mPos f_m_Network_lines_to (mRecv 0 "lines_to" (mV 0) (mCons (mV 2) mNil))) (mCons (mV 1) (mCons (mV 3) (mCons (mFld 0 "dawn" (mV 0)) mNil)))))))
def f_d_soonest : List D → Option (D × Ev) := runF 3 4 b_d_soonest
/- 0 self, 1 rows, 2 seen, 3 viewer, 4 least, 5 most -/
def l1_m_Network_lines : SM :=
    (sSeq (sAsgG (tgTup 2 (tgCons (tgN 4) (tgCons (tgN 5) tgNil))) (mP (mOp subscr (mFld 0 "spans" (mV 0)) (mTup (mCons (mP (mV 2)) (mCons (mP (mV 3)) mNil))))))
    (sFrz 5 (sFrz 4 (sKill [4, 5, 2, 3] (sEff (bMeth1 (pN 1) (mTup (mCons (mP (mV 2)) (mCons (mP (mV 3)) (mCons (mP (mV 4)) (mCons (mP (mV 5)) mNil))))) opAppend))))))
def b_m_Network_lines : SM :=
    (sSeq (sAsg 1 (mLst mNil))
    (sSeq (sKill [0] (sFor (fun A => ((mFld 0 "spans" (mV 0)) A).bind keysOf) (tgTup 2 (tgCons (tgN 2) (tgCons (tgN 3) tgNil))) l1_m_Network_lines))
    (sRetV 1)))
def f_m_Network_lines : List D → Option (D × Ev) := runF 1 6 b_m_Network_lines
/- 0 self, 1 seen, 2 viewer -/
def b_m_Network_lateness : SM :=
    (sSeq (sExp (mPos f_m_Network_need_keeper (mRecv 0 "need_keeper" (mV 0) (mCons (mV 1) mNil))))
    (sSeq (sExp (mPos f_m_Network_need_keeper (mRecv 0 "need_keeper" (mV 0) (mCons (mV 2) mNil))))
    (sRet (mP (mGet1 (mFld 0 "spans" (mV 0)) (mTup (mCons (mP (mV 1)) (mCons (mP (mV 2)) mNil))))))))
def f_m_Network_lateness : List D → Option (D × Ev) := runF 3 3 b_m_Network_lateness
/- 0 self, 1 name -/
def b_m_Network_is_lookout : SM :=
    (sSeq (sExp (mPos f_m_Network_need_keeper (mRecv 0 "need_keeper" (mV 0) (mCons (mV 1) mNil))))
    (sRet (mP (mOp subscr (mFld 0 "watches" (mV 0)) (mV 1)))))
def f_m_Network_is_lookout : List D → Option (D × Ev) := runF 2 2 b_m_Network_is_lookout
/- 0 network, 1 table, 2 name, 3 moment, 4 seen, 5 least, 6 most -/
def l1_d_due : SM :=
    (sKill [5] (sKill [6, 4] (sIf (mT (mOp notND (mV 6) (mC D.non)))
    (sAsg 3 (mCall minD (mCons (mV 3) (mCons (mOp addD (mOp subscr (mV 1) (mV 4)) (mV 6)) mNil))))
    sNx)))
def b_d_due : SM :=
    (sSeq (sExp (mPos f_m_Network_need_keeper (mRecv 0 "need_keeper" (mV 0) (mCons (mV 2) mNil))))
    (sSeq (sAsg 3 (mP (mFld 0 "dawn" (mV 0))))
    (sSeq (sKill [2, 0, 1] (sFor (mItems' (mPos f_m_Network_lines_to (mRecv 0 "lines_to" (mV 0) (mCons (mV 2) mNil)))) (tgTup 3 (tgCons (tgN 4) (tgCons (tgN 5) (tgCons (tgN 6) tgNil)))) l1_d_due))
    (sRetV 3))))
def f_d_due : List D → Option (D × Ev) := runF 3 7 b_d_due
/- 0 _law_found, 1 _law_sums, 2 _law_dawn, 3 _law_total -/
def l1_d_law_right_v3 : SM :=
    (sKill [3] (sIf (mT (mOp gtD (mV 0) (mV 3)))
    (sRet (mC (D.bl false)))
    sNx))
def b_d_law_right_v3 : SM :=
    (sSeq (sIf (mOr (mNot (mTr (mPos f_d_law_is_integer (mCons (mV 0) mNil)))) (mT (mOp gtD (mV 0) (mV 2))))
    (sRet (mC (D.bl false)))
    sNx)
    (sSeq (sFor (mItems' (mP (mV 1))) (tgN 3) l1_d_law_right_v3)
    (sRet (mOrV (mOp eqD (mV 0) (mV 2)) (mOp inD (mV 0) (mV 1))))))
def f_d_law_right_v3 : List D → Option (D × Ev) := runF 3 4 b_d_law_right_v3
/- 0 _law_cell_here, 1 _law_most_keepers, 2 _law_most_dawn, 3 _law_row_here, 4 _law_count, 5 _law_names_here, 6 _law_lookouts, 7 _law_needs, 8 _law_lines, 9 _law_pair, 10 _law_digit, 11 _law_k, 12 _law_shortest, 13 _law_longest -/
def c1_d_law_case : Ev → D → Option (Option D) :=
    lcItem (tgN 11) mYes (mOp eqD (mOp modD (mCall intD (mCons (mOp subscr (mV 3) (mOp addD (mC (D.int 8)) (mV 11))) mNil)) (mC (D.int 3))) (mC (D.int 0)))
def c2_d_law_case : Ev → D → Option (Option D) :=
    lcItem (tgN 11) mYes (mOp addD (mC (D.int 1)) (mOp modD (mOp fdivD (mCall intD (mCons (mOp subscr (mV 3) (mOp addD (mC (D.int 8)) (mV 11))) mNil)) (mC (D.int 3))) (mC (D.int 4))))
def l3_d_law_case : SM :=
    (sSeq (sAsg 10 (mCall intD (mCons (mOp subscr (mV 3) (mOp addD (mC (D.int 14)) (mV 9))) mNil)))
    (sKill [10, 13, 9, 12] (sIf (mAnd (mT (mOp neD (mOp fdivD (mV 9) (mV 4)) (mOp modD (mV 9) (mV 4)))) (mT (mOp gtD (mOp modD (mV 10) (mC (D.int 4))) (mC (D.int 0)))))
    (sSeq (sAsg 12 (mOp addD (mC (D.int 1)) (mOp modD (mOp fdivD (mV 10) (mC (D.int 4))) (mC (D.int 5)))))
    (sSeq (sIf (mT (mOp eqD (mOp fdivD (mV 10) (mC (D.int 140))) (mC (D.int 3))))
    (sAsg 12 (mOp addD (mV 12) (mC (D.int 90))))
    sNx)
    (sSeq (sAsg 13 (mC D.non))
    (sSeq (sIf (mT (mOp gtD (mOp modD (mV 10) (mC (D.int 4))) (mC (D.int 1))))
    (sAsg 13 (mOp addD (mV 12) (mOp modD (mOp fdivD (mV 10) (mC (D.int 20))) (mC (D.int 7)))))
    sNx)
    (sFrz 13 (sEff (bMeth1 (pN 8) (mLst (mCons (mP (mOp subscr (mV 5) (mOp fdivD (mV 9) (mV 4)))) (mCons (mP (mOp subscr (mV 5) (mOp modD (mV 9) (mV 4)))) (mCons (mP (mV 12)) (mCons (mP (mV 13)) mNil))))) opAppend)))))))
    sNx)))
def b_d_law_case : SM :=
    (sSeq (sKill [0] (sAsg 3 (mPos f_d_law_row (mCons (mV 0) (mCons (mC (D.int 60)) mNil)))))
    (sSeq (sKill [1] (sAsg 4 (mOp modD (mCall intD (mCons (mOp subscr (mV 3) (mC (D.int 0))) mNil)) (mOp addD (mV 1) (mC (D.int 1))))))
    (sSeq (sAsg 5 (mPos f_d_law_names (mCons (mSl (mV 3) (mOSome (mC (D.int 2))) (mOSome (mC (D.int 8)))) (mCons (mV 4) mNil))))
    (sSeq (sAsg 6 (mLcN (mRng1 (mCons (mV 4) mNil)) c1_d_law_case [11]))
    (sSeq (sAsg 7 (mLcN (mRng1 (mCons (mV 4) mNil)) c2_d_law_case [11]))
    (sSeq (sAsg 8 (mLst mNil))
    (sSeq (sKill [4] (sFor (mRng1 (mCons (mOp mulD (mV 4) (mV 4)) mNil)) (tgN 9) l3_d_law_case))
    (sSeq (sIf (mT (mOp eqD (mOp modD (mCall intD (mCons (mOp subscr (mV 3) (mC (D.int 50))) mNil)) (mC (D.int 2))) (mC (D.int 1))))
    (sFrz 8 (sAsg 8 (fun A => ((mV 8) A).bind revD)))
    sNx)
    (sFrz 8 (sFrz 7 (sFrz 6 (sFrz 5 (sRet (mLst (mCons (mOp addD (mC (D.int 1)) (mOp modD (mCall intD (mCons (mOp subscr (mV 3) (mC (D.int 1))) mNil)) (mV 2))) (mCons (mP (mV 5)) (mCons (mP (mV 6)) (mCons (mP (mV 7)) (mCons (mP (mV 8)) mNil)))))))))))))))))))
def f_d_law_case : List D → Option (D × Ev) := runF 3 14 b_d_law_case
/- 0 _law_case_here, 1 _law_network_here, 2 _law_k, 3 _law_line -/
def l1_d_law_network : SM :=
    (sKill [2] (sEff (mLendM f_m_Network_add_keeper 0 "add_keeper" [.p 1, .k 0, .k 1] [] (pN 1) (mCons (mOp subscr (mOp subscr (mV 0) (mC (D.int 1))) (mV 2)) mNil) (mCons (mOp subscr (mOp subscr (mV 0) (mC (D.int 2))) (mV 2)) (mCons (mOp subscr (mOp subscr (mV 0) (mC (D.int 3))) (mV 2)) mNil)))))
def l2_d_law_network : SM :=
    (sKill [3] (sEff (mLendM f_m_Network_add_line 0 "add_line" [.p 1, .p 2, .k 0, .k 1] [] (pN 1) (mCons (mOp subscr (mV 3) (mC (D.int 0))) (mCons (mOp subscr (mV 3) (mC (D.int 1))) mNil)) (mCons (mOp subscr (mV 3) (mC (D.int 2))) (mCons (mOp subscr (mV 3) (mC (D.int 3))) mNil)))))
def b_d_law_network : SM :=
    (sSeq (sAsg 1 (mMake f_m_Network_ddinit 0 (mCons (mOp subscr (mV 0) (mC (D.int 0))) mNil)))
    (sSeq (sFor (mRng1 (mCons (mCall lenD (mCons (mOp subscr (mV 0) (mC (D.int 1))) mNil)) mNil)) (tgN 2) l1_d_law_network)
    (sSeq (sKill [0] (sFor (mItems' (mP (mOp subscr (mV 0) (mC (D.int 4))))) (tgN 3) l2_d_law_network))
    (sRetV 1))))
def f_d_law_network : List D → Option (D × Ev) := runF 1 4 b_d_law_network
/- 0 network, 1 table, 2 result, 3 seen, 4 viewer, 5 least, 6 most, 7 late -/
def l1_d_lateness_of : SM :=
    (sSeq (sKill [5] (sAsg 7 (mCall maxD (mCons (mV 5) (mCons (mOp subD (mOp subscr (mV 1) (mV 4)) (mOp subscr (mV 1) (mV 3))) mNil)))))
    (sSeq (sKill [6] (sIf (mT (mOp notND (mV 6) (mC D.non)))
    (sAsg 7 (mCall minD (mCons (mV 7) (mCons (mV 6) mNil))))
    sNx))
    (sFrz 7 (sKill [7, 3, 4] (sPut (pN 2) (mTup (mCons (mP (mV 3)) (mCons (mP (mV 4)) mNil))) (mP (mV 7)))))))
def b_d_lateness_of : SM :=
    (sSeq (sAsg 2 (mC (D.dtt true [] [])))
    (sSeq (sKill [0, 1] (sFor (mItems' (mPos f_m_Network_lines (mRecv 0 "lines" (mV 0) mNil))) (tgTup 4 (tgCons (tgN 3) (tgCons (tgN 4) (tgCons (tgN 5) (tgCons (tgN 6) tgNil))))) l1_d_lateness_of))
    (sRetV 2)))
def f_d_lateness_of : List D → Option (D × Ev) := runF 2 8 b_d_lateness_of
/- 0 _law_case_here, 1 _law_row_here, 2 _law_table, 3 _law_k -/
def l1_d_law_times_v2 : SM :=
    (sSeq (sPut (pN 2) (mOp subscr (mOp subscr (mV 0) (mC (D.int 1))) (mV 3)) (mP (mOp subscr (mV 0) (mC (D.int 0)))))
    (sKill [3] (sIf (mT (mOp gtD (mOp modD (mCall intD (mCons (mOp subscr (mV 1) (mV 3)) mNil)) (mC (D.int 5))) (mC (D.int 0))))
    (sPut (pN 2) (mOp subscr (mOp subscr (mV 0) (mC (D.int 1))) (mV 3)) (mOp modD (mOp fdivD (mCall intD (mCons (mOp subscr (mV 1) (mV 3)) mNil)) (mC (D.int 5))) (mOp addD (mOp subscr (mV 0) (mC (D.int 0))) (mC (D.int 1)))))
    sNx)))
def b_d_law_times_v2 : SM :=
    (sSeq (sAsg 2 (mC (D.dct true [] [])))
    (sSeq (sKill [0, 1] (sFor (mRng1 (mCons (mCall lenD (mCons (mOp subscr (mV 0) (mC (D.int 1))) mNil)) mNil)) (tgN 3) l1_d_law_times_v2))
    (sRetV 2)))
def f_d_law_times_v2 : List D → Option (D × Ev) := runF 2 4 b_d_law_times_v2
/- 0 network, 1 table, 2 name -/
def b_d_fault_of : SM :=
    (sSeq (sIf (mAnd (mNot (mTr (mPos f_m_Network_is_lookout (mRecv 0 "is_lookout" (mV 0) (mCons (mV 2) mNil))))) (mT (mOp ltD (mOp subscr (mV 1) (mV 2)) (mPos f_d_soonest (mCons (mV 0) (mCons (mV 1) (mCons (mV 2) mNil)))))))
    (sRet (mC (D.str "err")))
    sNx)
    (sSeq (sKill [2, 0, 1] (sIf (mT (mOp gtD (mOp subscr (mV 1) (mV 2)) (mPos f_d_due (mCons (mV 0) (mCons (mV 1) (mCons (mV 2) mNil))))))
    (sRet (mC (D.str "sleep")))
    sNx))
    (sRet (mC D.non))))
def f_d_fault_of : List D → Option (D × Ev) := runF 3 3 b_d_fault_of
/- 0 _law_case_here, 1 _law_table, 2 _law_name, 3 _law_time, 4 _law_dim, 5 _law_line -/
def l1_d_law_enough : SM :=
    (sKill [5] (sIf (mAnd (mT (mOp eqD (mOp subscr (mV 5) (mC (D.int 1))) (mV 2))) (mT (mOp leD (mOp addD (mOp subscr (mV 1) (mOp subscr (mV 5) (mC (D.int 0)))) (mOp subscr (mV 5) (mC (D.int 2)))) (mV 3))))
    (sSeq (sIf (mT (mOp notND (mOp subscr (mV 5) (mC (D.int 3))) (mC D.non)))
    (sRet (mC (D.bl true)))
    sNx)
    (sAsg 4 (mOp addD (mV 4) (mC (D.int 1)))))
    sNx))
def b_d_law_enough : SM :=
    (sSeq (sAsg 4 (mC (D.int 0)))
    (sSeq (sKill [1, 3] (sFor (mItems' (mP (mOp subscr (mV 0) (mC (D.int 4))))) (tgN 5) l1_d_law_enough))
    (sRet (mOp geD (mV 4) (mOp subscr (mOp subscr (mV 0) (mC (D.int 3))) (mOp indexD (mOp subscr (mV 0) (mC (D.int 1))) (mV 2)))))))
def f_d_law_enough : List D → Option (D × Ev) := runF 4 6 b_d_law_enough
/- 0 _law_case_here, 1 _law_table, 2 _law_name, 3 _law_time, 4 _law_line -/
def l1_d_law_kind_v2 : SM :=
    (sKill [4] (sIf (mAnd (mT (mOp eqD (mOp subscr (mV 4) (mC (D.int 1))) (mV 2))) (mAnd (mT (mOp notND (mOp subscr (mV 4) (mC (D.int 3))) (mC D.non))) (mT (mOp ltD (mOp addD (mOp subscr (mV 1) (mOp subscr (mV 4) (mC (D.int 0)))) (mOp subscr (mV 4) (mC (D.int 3)))) (mV 3)))))
    (sRet (mC (D.str "sleep")))
    sNx))
def b_d_law_kind_v2 : SM :=
    (sSeq (sAsg 3 (mP (mOp subscr (mV 1) (mV 2))))
    (sSeq (sIf (mAnd (mT (mOp ltD (mV 3) (mOp subscr (mV 0) (mC (D.int 0))))) (mAnd (mNot (mTr (mOp subscr (mOp subscr (mV 0) (mC (D.int 2))) (mOp indexD (mOp subscr (mV 0) (mC (D.int 1))) (mV 2))))) (mNot (mTr (mPos f_d_law_enough (mCons (mV 0) (mCons (mV 1) (mCons (mV 2) (mCons (mV 3) mNil)))))))))
    (sRet (mC (D.str "err")))
    sNx)
    (sSeq (sKill [0, 2, 1, 3] (sFor (mItems' (mP (mOp subscr (mV 0) (mC (D.int 4))))) (tgN 4) l1_d_law_kind_v2))
    (sRet (mC (D.str ""))))))
def f_d_law_kind_v2 : List D → Option (D × Ev) := runF 3 5 b_d_law_kind_v2
/- 0 self, 1 name -/
def b_m_Network_ddcontains : SM :=
    (sRet (mOp inD (mV 1) (mFld 0 "needs" (mV 0))))
def f_m_Network_ddcontains : List D → Option (D × Ev) := runF 2 2 b_m_Network_ddcontains
/- 0 network, 1 faults, 2 kinds, 3 fault, 4 name, 5 kind -/
def l1_d_check_faults : SM :=
    (sSeq (sAsgG (tgTup 2 (tgCons (tgN 4) (tgCons (tgN 5) tgNil))) (mP (mV 3)))
    (sSeq (sIf (mT (mOp (inOwnD 0 f_m_Network_ddcontains true) (mV 4) (mV 0)))
    (fun _ => none)
    sNx)
    (sSeq (sKill [3] (sIf (mOr (mT (mOp ninD (mV 5) (mC (D.ktup [D.str "err", D.str "sleep"])))) (mT (mOp inD (mV 4) (mV 2))))
    (fun _ => none)
    sNx))
    (sFrz 5 (sKill [5, 4] (sPut (pN 2) (mV 4) (mP (mV 5))))))))
def c2_d_check_faults : Ev → D → Option (Option D) :=
    lcItem (tgN 4) (mT (mOp inD (mV 4) (mV 2))) (mTup (mCons (mP (mV 4)) (mCons (mP (mOp subscr (mV 2) (mV 4))) mNil)))
def b_d_check_faults : SM :=
    (sSeq (sAsg 2 (mC (D.dct true [] [])))
    (sSeq (sKill [1] (sFor (mItems' (mP (mV 1))) (tgN 3) l1_d_check_faults))
    (sRet (mLcN (mOwnIt 0 "names" (mP (mV 0))) c2_d_check_faults [4]))))
def f_d_check_faults : List D → Option (D × Ev) := runF 2 6 b_d_check_faults
/- 0 _law_case, 1 _law_row_here, 2 _law_table, 3 _law_k -/
def l1_d_law_times : SM :=
    (sSeq (sPut (pN 2) (mOp subscr (mOp subscr (mV 0) (mC (D.int 1))) (mV 3)) (mP (mOp subscr (mV 0) (mC (D.int 0)))))
    (sKill [3] (sIf (mT (mOp gtD (mOp modD (mCall intD (mCons (mOp subscr (mV 1) (mV 3)) mNil)) (mC (D.int 5))) (mC (D.int 0))))
    (sPut (pN 2) (mOp subscr (mOp subscr (mV 0) (mC (D.int 1))) (mV 3)) (mOp modD (mOp fdivD (mCall intD (mCons (mOp subscr (mV 1) (mV 3)) mNil)) (mC (D.int 5))) (mOp addD (mOp subscr (mV 0) (mC (D.int 0))) (mC (D.int 1)))))
    sNx)))
def b_d_law_times : SM :=
    (sSeq (sAsg 2 (mC (D.dct true [] [])))
    (sSeq (sKill [0, 1] (sFor (mRng1 (mCons (mCall lenD (mCons (mOp subscr (mV 0) (mC (D.int 1))) mNil)) mNil)) (tgN 3) l1_d_law_times))
    (sRetV 2)))
def f_d_law_times : List D → Option (D × Ev) := runF 2 4 b_d_law_times
end VI
set_option Elab.async false
set_option linter.all false
set_option maxRecDepth 100000
set_option autoImplicit false
/-! VData: a network and its lines as Lean data, and the trees that stand for them. -/
namespace VI
open PySem L2
/-! ### dicts -/
theorem look_map {κ α : Type} [DecidableEq κ] (key : α → κ) (f : α → D) (k : κ) : ∀ xs : List α, look (xs.map key) (xs.map f) k = (xs.find? fun x => decide (key x = k)).map f
  | [] => rfl
  | x :: xs => by
    have ih := look_map key f k xs
    unfold look at ih ⊢
    rw [List.map_cons, List.map_cons, List.zip_cons_cons]
    by_cases h : key x = k
    · rw [List.find?_cons_of_pos (by simpa using h), List.find?_cons_of_pos (by simpa using h)]; rfl
    · rw [List.find?_cons_of_neg (by simpa using h), List.find?_cons_of_neg (by simpa using h)]; exact ih
theorem kS_inj {a b : Str} : kS a = kS b ↔ a = b := by simp [kS]
theorem find_kS {s : Str} : ∀ xs : List Str, (xs.find? fun x => decide (kS x = kS s)) = if s ∈ xs then some s else none
  | [] => by simp
  | x :: xs => by
    by_cases h : x = s
    · subst h; simp [kS_inj]
    · rw [List.find?_cons_of_neg (by simpa [kS_inj] using h), find_kS xs]
      simp [Ne.symm h]
@[simp] theorem look_kS {f : Str → D} {s : Str} {xs : List Str} : look (xs.map kS) (xs.map f) (kS s) = if s ∈ xs then some (f s) else none := by
  rw [look_map, find_kS]
  split <;> rfl
theorem putO_new {κ : Type} [DecidableEq κ] {ks : List κ} {k : κ} {xs : List D} {d : D} (h : k ∉ ks) : putO ks xs k d = some (ks ++ [k], xs ++ [d]) := by
  have : ks.idxOf? k = none := by rw [List.idxOf?_eq_none_iff]; exact h
  simp only [putO, this]
theorem mem_kS {names : List Str} {s : Str} : kS s ∈ names.map kS ↔ s ∈ names := by simp [kS]
theorem nodup_kS {names : List Str} (h : names.Nodup) : (names.map kS).Nodup := by
  show List.Pairwise _ _
  rw [List.pairwise_map]
  exact List.Pairwise.imp (fun h e => h (by simpa [kS] using e)) h
@[simp] theorem inD_dct {b : Bool} {ks : List Key} {ds : List D} {s : Str} : inD (.str s) (.dct b ks ds) = some (.bl (look ks ds (kS s)).isSome) := (rfl)
theorem idx_set {α β : Type} [DecidableEq α] {k : α} (f : α → β) (y : β) : ∀ {xs : List α} {j : Nat}, xs.Nodup → xs.idxOf? k = some j → (xs.map f)[j]? = some (f k) ∧ (xs.map f).set j y = xs.map fun x => if x = k then y else f x
  | [], j, _, h => by simp at h
  | x :: xs, j, nd, h => by
    rw [List.idxOf?_cons] at h
    obtain ⟨n1, n2⟩ := List.nodup_cons.mp nd
    by_cases hx : x = k
    · subst hx
      simp at h; subst h
      refine ⟨rfl, ?_⟩
      simp only [List.map_cons, List.set_cons_zero, if_true]
      congr 1
      apply List.map_congr_left
      intro z hz
      rw [if_neg (fun (e : z = x) => n1 (by rw [← e]; exact hz))]
    · rw [show (x == k) = false from by simpa using hx] at h
      simp only [Bool.false_eq_true, if_false, Option.map_eq_some_iff] at h
      obtain ⟨i, hi, rfl⟩ := h
      obtain ⟨e1, e2⟩ := idx_set f y n2 hi
      refine ⟨by simpa using e1, ?_⟩
      simp only [List.map_cons, List.set_cons_succ, e2, if_neg hx]
theorem idx_some {α : Type} [DecidableEq α] {k : α} {xs : List α} (h : k ∈ xs) : ∃ j, xs.idxOf? k = some j := by
  cases e : xs.idxOf? k with
  | some j => exact ⟨j, rfl⟩
  | none => rw [List.idxOf?_eq_none_iff] at e; exact absurd h e
/-! ### small encoders -/
def optD : Option Int → D
  | none => .non
  | some i => .int i
@[simp] theorem optD_none : optD none = .non := (rfl)
@[simp] theorem optD_some {i : Int} : optD (some i) = .int i := (rfl)
@[simp] theorem optD_frz {o : Option Int} : (optD o).frz = optD o := by cases o <;> rfl
@[simp] theorem optD_plain {o : Option Int} : (optD o).plain = true := by cases o <;> rfl
@[simp] theorem optD_clean {o : Option Int} : (optD o).clean = true := by cases o <;> rfl
@[simp] theorem isND_opt {o : Option Int} : isND (optD o) .non = some (.bl (decide (o = none))) := by cases o <;> rfl
@[simp] theorem notND_opt {o : Option Int} : notND (optD o) .non = some (.bl (!decide (o = none))) := by cases o <;> rfl
@[simp] theorem frzL_mapf {α : Type} {g : α → D} {xs : List α} : D.frzL (xs.map g) = xs.map fun x => (g x).frz := frzL_map
theorem plainL_map {α : Type} {g : α → D} {xs : List α} (h : ∀ x ∈ xs, (g x).plain = true) : D.plainL (xs.map g) = true := plainL_all fun y hy => by obtain ⟨x, hx, rfl⟩ := List.mem_map.mp hy; exact h x hx
theorem cleanL_map {α : Type} {g : α → D} {xs : List α} (h : ∀ x ∈ xs, (g x).clean = true) : D.cleanL (xs.map g) = true := cleanL_all fun y hy => by obtain ⟨x, hx, rfl⟩ := List.mem_map.mp hy; exact h x hx
@[simp] theorem plainL_mapf {α : Type} {g : α → D} {xs : List α} : D.plainL (xs.map g) = xs.all fun x => (g x).plain := by induction xs with | nil => rfl | cons x xs ih => simp [ih]
@[simp] theorem cleanL_mapf {α : Type} {g : α → D} {xs : List α} : D.cleanL (xs.map g) = xs.all fun x => (g x).clean := by induction xs with | nil => rfl | cons x xs ih => simp [ih]
@[simp] theorem plainL_app {xs ys : List D} : D.plainL (xs ++ ys) = (D.plainL xs && D.plainL ys) := plainL_append
@[simp] theorem frzL_app {xs ys : List D} : D.frzL (xs ++ ys) = D.frzL xs ++ D.frzL ys := frzL_append
@[simp] theorem cleanL_app {xs ys : List D} : D.cleanL (xs ++ ys) = (D.cleanL xs && D.cleanL ys) := by induction xs with | nil => simp | cons x xs ih => simp [ih, Bool.and_assoc]
@[simp] theorem plainL_rev {xs : List D} : D.plainL xs.reverse = D.plainL xs := by induction xs with | nil => rfl | cons x xs ih => simp [ih, Bool.and_comm]
@[simp] theorem cleanL_rev {xs : List D} : D.cleanL xs.reverse = D.cleanL xs := by induction xs with | nil => rfl | cons x xs ih => simp [ih, Bool.and_comm]
@[simp] theorem frzL_rev {xs : List D} : D.frzL xs.reverse = (D.frzL xs).reverse := by induction xs with | nil => rfl | cons x xs ih => simp [ih]
section
variable {α : Type} {g : α → D} {xs : List α} {j : Nat}
@[simp] theorem plainL_take : D.plainL ((xs.map g).take j) = (xs.take j).all fun x => (g x).plain := by rw [← List.map_take, plainL_mapf]
@[simp] theorem plainL_drop : D.plainL ((xs.map g).drop j) = (xs.drop j).all fun x => (g x).plain := by rw [← List.map_drop, plainL_mapf]
@[simp] theorem cleanL_take : D.cleanL ((xs.map g).take j) = (xs.take j).all fun x => (g x).clean := by rw [← List.map_take, cleanL_mapf]
@[simp] theorem cleanL_drop : D.cleanL ((xs.map g).drop j) = (xs.drop j).all fun x => (g x).clean := by rw [← List.map_drop, cleanL_mapf]
@[simp] theorem frzL_take : D.frzL ((xs.map g).take j) = (xs.map fun x => (g x).frz).take j := by rw [← List.map_take, frzL_map, List.map_take]
@[simp] theorem frzL_drop : D.frzL ((xs.map g).drop j) = (xs.map fun x => (g x).frz).drop j := by rw [← List.map_drop, frzL_map, List.map_drop]
end
/-! ### networks -/
structure Line where
  seen : Str
  viewer : Str
  least : Int
  most : Option Int
deriving DecidableEq
structure Net where
  dawn : Int
  names : List Str
  look : Str → Bool
  need : Str → Int
  lines : List Line
def Line.pair (l : Line) : List Key := [kS l.seen, kS l.viewer]
def Line.span (l : Line) : D := .tup [.int l.least, optD l.most]
def Line.tup (l : Line) : D := .tup [.str l.seen, .str l.viewer, .int l.least, optD l.most]
def Line.into (l : Line) : D := .tup [.str l.seen, .int l.least, optD l.most]
abbrev netF : List Str := ["dawn", "names", "watches", "needs", "spans", "into"]
def Net.to (N : Net) (v : Str) : List Line := N.lines.filter fun l => decide (l.viewer = v)
def net6 (b : Bool) (dawn names ws ns sp iv : D) : D := .obj b 0 netF [dawn, names, ws, ns, sp, iv]
def netD (b : Bool) (N : Net) : D :=
  net6 b (.int N.dawn) (.lst b (N.names.map D.str)) (.dct b (N.names.map kS) (N.names.map fun n => .bl (N.look n))) (.dct b (N.names.map kS) (N.names.map fun n => .int (N.need n)))
    (.dtt b (N.lines.map Line.pair) (N.lines.map Line.span)) (.dct b (N.names.map kS) (N.names.map fun n => .lst b ((N.to n).map Line.into)))
@[simp] theorem line_span_frz {l : Line} : l.span.frz = l.span := by simp [Line.span]
@[simp] theorem line_tup_frz {l : Line} : l.tup.frz = l.tup := by simp [Line.tup]
@[simp] theorem line_into_frz {l : Line} : l.into.frz = l.into := by simp [Line.into]
@[simp] theorem line_span_plain {l : Line} : l.span.plain = true := by simp [Line.span]
@[simp] theorem line_tup_plain {l : Line} : l.tup.plain = true := by simp [Line.tup]
@[simp] theorem line_into_plain {l : Line} : l.into.plain = true := by simp [Line.into]
@[simp] theorem line_span_clean {l : Line} : l.span.clean = true := by simp [Line.span]
@[simp] theorem line_tup_clean {l : Line} : l.tup.clean = true := by simp [Line.tup]
@[simp] theorem line_into_clean {l : Line} : l.into.clean = true := by simp [Line.into]
@[simp] theorem netD_frz {b : Bool} {N : Net} : (netD b N).frz = netD false N := by
  unfold netD net6
  simp [frzL_map]
@[simp] theorem netD_plain {b : Bool} {N : Net} : (netD b N).plain = !b := (rfl)
@[simp] theorem netD_clean {b : Bool} {N : Net} : (netD b N).clean = b := by
  cases b <;> simp [netD, net6]
theorem netD_obj {b : Bool} {N : Net} {m : Str} (h : m ∉ netF) : isObj 0 m (netD b N) = true := by
  unfold netD net6 isObj
  simp only [decide_true, Bool.true_and, decide_eq_true_eq]; exact h
@[simp] theorem ob_need_keeper {b : Bool} {N : Net} : isObj 0 "need_keeper" (netD b N) = true := netD_obj (by decide +kernel)
@[simp] theorem ob_add_keeper {b : Bool} {N : Net} : isObj 0 "add_keeper" (netD b N) = true := netD_obj (by decide +kernel)
@[simp] theorem ob_add_line {b : Bool} {N : Net} : isObj 0 "add_line" (netD b N) = true := netD_obj (by decide +kernel)
@[simp] theorem ob_is_lookout {b : Bool} {N : Net} : isObj 0 "is_lookout" (netD b N) = true := netD_obj (by decide +kernel)
@[simp] theorem ob_need_of {b : Bool} {N : Net} : isObj 0 "need_of" (netD b N) = true := netD_obj (by decide +kernel)
@[simp] theorem ob_lateness {b : Bool} {N : Net} : isObj 0 "lateness" (netD b N) = true := netD_obj (by decide +kernel)
@[simp] theorem ob_lines {b : Bool} {N : Net} : isObj 0 "lines" (netD b N) = true := netD_obj (by decide +kernel)
@[simp] theorem ob_lines_to {b : Bool} {N : Net} : isObj 0 "lines_to" (netD b N) = true := netD_obj (by decide +kernel)
@[simp] theorem ob_copy {b : Bool} {N : Net} : isObj 0 "copy" (netD b N) = true := netD_obj (by decide +kernel)
theorem lookup_idx {α : Type} {f : Str} : ∀ {fs : List Str} {xs : List α} {j : Nat}, fs.idxOf? f = some j → fs.length = xs.length → (fs.zip xs).lookup f = xs[j]?
  | [], _, j, h, _ => by simp at h
  | g :: fs, [], j, h, l => by simp at l
  | g :: fs, x :: xs, j, h, l => by
    rw [List.idxOf?_cons] at h
    rw [List.zip_cons_cons, List.lookup_cons]
    by_cases hg : g = f
    · subst hg
      simp at h; subst h
      simp
    · rw [show (g == f) = false from by simpa using hg] at h
      simp only [Bool.false_eq_true, if_false, Option.map_eq_some_iff] at h
      obtain ⟨i, hi, rfl⟩ := h
      rw [show (f == g) = false from by simpa using Ne.symm hg]
      simpa using lookup_idx hi (by simpa using l)
theorem fld_at {b : Bool} {c : Nat} {fs : List Str} {xs : List D} {f : Str} (j : Nat) (h : fs.idxOf? f = some j) (l : fs.length = xs.length) : fldD c f (.obj b c fs xs) = xs[j]? := by
  unfold fldD
  simp only [if_true]
  exact lookup_idx h l
theorem pfld_at {c i : Nat} {π : List Nat} {fs : List Str} {xs : List D} {f : Str} (j : Nat) (h : fs.idxOf? f = some j) : pFldD c f (i, π, .obj true c fs xs) = (xs[j]?).map fun e => (i, π ++ [j], e) := by
  unfold pFldD
  simp only [if_true, h, Option.bind_some]
theorem idx_dawn : List.idxOf? ("dawn" : Str) netF = some 0 := by decide +kernel
theorem idx_names : List.idxOf? ("names" : Str) netF = some 1 := by decide +kernel
theorem idx_watches : List.idxOf? ("watches" : Str) netF = some 2 := by decide +kernel
theorem idx_needs : List.idxOf? ("needs" : Str) netF = some 3 := by decide +kernel
theorem idx_spans : List.idxOf? ("spans" : Str) netF = some 4 := by decide +kernel
theorem idx_into : List.idxOf? ("into" : Str) netF = some 5 := by decide +kernel
section
variable {b : Bool} {i : Nat} {π : List Nat} {x0 x1 x2 x3 x4 x5 e : D}
@[simp] theorem f6_dawn : fldD 0 "dawn" (net6 b x0 x1 x2 x3 x4 x5) = some x0 := fld_at 0 idx_dawn rfl
@[simp] theorem f6_names : fldD 0 "names" (net6 b x0 x1 x2 x3 x4 x5) = some x1 := fld_at 1 idx_names rfl
@[simp] theorem f6_watches : fldD 0 "watches" (net6 b x0 x1 x2 x3 x4 x5) = some x2 := fld_at 2 idx_watches rfl
@[simp] theorem f6_needs : fldD 0 "needs" (net6 b x0 x1 x2 x3 x4 x5) = some x3 := fld_at 3 idx_needs rfl
@[simp] theorem f6_spans : fldD 0 "spans" (net6 b x0 x1 x2 x3 x4 x5) = some x4 := fld_at 4 idx_spans rfl
@[simp] theorem f6_into : fldD 0 "into" (net6 b x0 x1 x2 x3 x4 x5) = some x5 := fld_at 5 idx_into rfl
@[simp] theorem p6_dawn : pFldD 0 "dawn" (i, π, net6 true x0 x1 x2 x3 x4 x5) = some (i, π ++ [0], x0) := pfld_at 0 idx_dawn
@[simp] theorem p6_names : pFldD 0 "names" (i, π, net6 true x0 x1 x2 x3 x4 x5) = some (i, π ++ [1], x1) := pfld_at 1 idx_names
@[simp] theorem p6_watches : pFldD 0 "watches" (i, π, net6 true x0 x1 x2 x3 x4 x5) = some (i, π ++ [2], x2) := pfld_at 2 idx_watches
@[simp] theorem p6_needs : pFldD 0 "needs" (i, π, net6 true x0 x1 x2 x3 x4 x5) = some (i, π ++ [3], x3) := pfld_at 3 idx_needs
@[simp] theorem p6_spans : pFldD 0 "spans" (i, π, net6 true x0 x1 x2 x3 x4 x5) = some (i, π ++ [4], x4) := pfld_at 4 idx_spans
@[simp] theorem p6_into : pFldD 0 "into" (i, π, net6 true x0 x1 x2 x3 x4 x5) = some (i, π ++ [5], x5) := pfld_at 5 idx_into
@[simp] theorem s6_0 : setP (net6 true x0 x1 x2 x3 x4 x5) (0 :: π) e = net6 true (setP x0 π e) x1 x2 x3 x4 x5 := (rfl)
@[simp] theorem s6_1 : setP (net6 true x0 x1 x2 x3 x4 x5) (1 :: π) e = net6 true x0 (setP x1 π e) x2 x3 x4 x5 := (rfl)
@[simp] theorem s6_2 : setP (net6 true x0 x1 x2 x3 x4 x5) (2 :: π) e = net6 true x0 x1 (setP x2 π e) x3 x4 x5 := (rfl)
@[simp] theorem s6_3 : setP (net6 true x0 x1 x2 x3 x4 x5) (3 :: π) e = net6 true x0 x1 x2 (setP x3 π e) x4 x5 := (rfl)
@[simp] theorem s6_4 : setP (net6 true x0 x1 x2 x3 x4 x5) (4 :: π) e = net6 true x0 x1 x2 x3 (setP x4 π e) x5 := (rfl)
@[simp] theorem s6_5 : setP (net6 true x0 x1 x2 x3 x4 x5) (5 :: π) e = net6 true x0 x1 x2 x3 x4 (setP x5 π e) := (rfl)
variable {N : Net}
@[simp] theorem fld_dawn : fldD 0 "dawn" (netD b N) = some (.int N.dawn) := f6_dawn
@[simp] theorem fld_names : fldD 0 "names" (netD b N) = some (.lst b (N.names.map D.str)) := f6_names
@[simp] theorem fld_watches : fldD 0 "watches" (netD b N) = some (.dct b (N.names.map kS) (N.names.map fun n => .bl (N.look n))) := f6_watches
@[simp] theorem fld_needs : fldD 0 "needs" (netD b N) = some (.dct b (N.names.map kS) (N.names.map fun n => .int (N.need n))) := f6_needs
@[simp] theorem fld_spans : fldD 0 "spans" (netD b N) = some (.dtt b (N.lines.map Line.pair) (N.lines.map Line.span)) := f6_spans
@[simp] theorem fld_into : fldD 0 "into" (netD b N) = some (.dct b (N.names.map kS) (N.names.map fun n => .lst b ((N.to n).map Line.into))) := f6_into
end
/-- a list's, a dict's item is changed -/
@[simp] theorem setP_lst {j : Nat} {π : List Nat} {xs : List D} {e : D} : setP (.lst true xs) (j :: π) e = match xs[j]? with | some x => .lst true (xs.set j (setP x π e)) | none => .lst true xs := by
  cases h : xs[j]? <;> simp [setP, childs, h, reChild]
@[simp] theorem setP_dct {j : Nat} {π : List Nat} {ks : List Key} {xs : List D} {e : D} : setP (.dct true ks xs) (j :: π) e = match xs[j]? with | some x => .dct true ks (xs.set j (setP x π e)) | none => .dct true ks xs := by
  cases h : xs[j]? <;> simp [setP, childs, h, reChild]
/-! ### what is asked of a network -/
structure NameOk (s : Str) : Prop where
  one : 1 ≤ s.length
  eight : s.length ≤ 8
  low : ∀ c ∈ s.cps.toList, 97 ≤ c ∧ c ≤ 122
structure Line.Ok (names : List Str) (l : Line) : Prop where
  s : l.seen ∈ names
  v : l.viewer ∈ names
  ne : l.seen ≠ l.viewer
  l1 : 1 ≤ l.least
  l999 : l.least ≤ 999
  m : ∀ i, l.most = some i → l.least ≤ i ∧ i ≤ 999
structure Net.Ok (N : Net) : Prop where
  d1 : 1 ≤ N.dawn
  d100 : N.dawn ≤ 100
  nd : N.names.Nodup
  len : N.names.length ≤ 8
  nok : ∀ s ∈ N.names, NameOk s
  n1 : ∀ s ∈ N.names, 1 ≤ N.need s ∧ N.need s ≤ 8
  lok : ∀ l ∈ N.lines, Line.Ok N.names l
  prs : (N.lines.map Line.pair).Nodup
def Net.new (dawn : Int) : Net := ⟨dawn, [], fun _ => false, fun _ => 1, []⟩
def Net.addK (N : Net) (s : Str) (w : Bool) (n : Int) : Net := { N with names := N.names ++ [s], look := fun x => if x = s then w else N.look x, need := fun x => if x = s then n else N.need x }
def Net.addL (N : Net) (l : Line) : Net := { N with lines := N.lines ++ [l] }
def Net.span (N : Net) (s v : Str) : Option Line := N.lines.find? fun l => decide (l.seen = s) && decide (l.viewer = v)
end VI
set_option Elab.async false
set_option linter.all false
set_option maxRecDepth 100000
set_option autoImplicit false
namespace VI
open PySem L2
theorem ixOf_map {α κ : Type} [DecidableEq α] [DecidableEq κ] (key : α → κ) (inj : ∀ a c, key a = key c → a = c) (v : α) : ∀ xs : List α, ixOf (xs.map key) (key v) = ixOf xs v
  | [] => rfl
  | x :: xs => by
    have ih := ixOf_map key inj v xs
    unfold ixOf at ih ⊢
    rw [List.map_cons, List.idxOf?_cons, List.idxOf?_cons, ih]
    by_cases h : x = v
    · subst h; simp
    · rw [show (key x == key v) = false from by simpa using fun e => h (inj _ _ e), show (x == v) = false from by simpa using h]
@[simp] theorem ix_kS {v : Str} {xs : List Str} : ixOf (xs.map kS) (kS v) = ixOf xs v := ixOf_map kS (fun _ _ => kS_inj.mp) v xs
@[simp] theorem keyIx_kS {xs : List Str} {ds : List D} {v : Str} : keyIx (.dct true (xs.map kS) ds) (.str v) = ixOf xs v := by
  unfold keyIx
  simp
/-! ### Network -/
theorem pair_inj {l m : Line} : l.pair = m.pair ↔ l.seen = m.seen ∧ l.viewer = m.viewer := by simp [Line.pair, kS_inj]
theorem find_pair {s v : Str} : ∀ xs : List Line, (xs.find? fun x => decide (x.pair = [kS s, kS v])) = xs.find? fun l => decide (l.seen = s) && decide (l.viewer = v)
  | [] => rfl
  | x :: xs => by
    have ih := find_pair (s := s) (v := v) xs
    by_cases h : x.seen = s ∧ x.viewer = v
    · rw [List.find?_cons_of_pos (by simp [Line.pair, kS_inj, h.1, h.2]), List.find?_cons_of_pos (by simp [h.1, h.2])]
    · have h1 : ¬ (x.pair = [kS s, kS v]) := by simp only [Line.pair, List.cons.injEq, kS_inj, and_true]; exact h
      rw [List.find?_cons_of_neg (by simpa using h1), List.find?_cons_of_neg (by simpa using h)]; exact ih
section
variable {b : Bool} {N : Net} {s v : Str}
theorem need_keeper_ap (h : s ∈ N.names) : ap f_m_Network_need_keeper [netD b N, .str s] = some .non :=
  ap_run rfl (by simp [env0, b_m_Network_need_keeper, ninD, h]) (by simp)
theorem need_of_ap (h : s ∈ N.names) : ap f_m_Network_need_of [netD b N, .str s] = some (.int (N.need s)) :=
  ap_run rfl (by simp [env0, b_m_Network_need_of, h, need_keeper_ap]) (by simp)
theorem is_lookout_ap (h : s ∈ N.names) : ap f_m_Network_is_lookout [netD b N, .str s] = some (.bl (N.look s)) :=
  ap_run rfl (by simp [env0, b_m_Network_is_lookout, h, need_keeper_ap]) (by simp)
theorem lines_to_ap (h : s ∈ N.names) : ap f_m_Network_lines_to [netD b N, .str s] = some (.lst true ((N.to s).map Line.into)) :=
  ap_run rfl (by simp [env0, b_m_Network_lines_to, h]) (by simp)
theorem letters_eq : (Str.ofString "abcdefghijklmnopqrstuvwxyz").cps.toList = List.range' 97 26 := by decide +kernel
theorem letters_len : (Str.ofString "abcdefghijklmnopqrstuvwxyz").length = 26 := by decide +kernel
theorem letter_in {c : Nat} : c ∈ (Str.ofString "abcdefghijklmnopqrstuvwxyz").cps.toList ↔ 97 ≤ c ∧ c ≤ 122 := by
  rw [letters_eq, List.mem_range']
  exact ⟨fun ⟨i, h, e⟩ => by omega, fun h => ⟨c - 97, by omega, by omega⟩⟩
theorem letter_in' {c : Nat} : c ∈ (Str.ofString "abcdefghijklmnopqrstuvwxyz").cps ↔ 97 ≤ c ∧ c ≤ 122 := by rw [← Array.mem_toList_iff]; exact letter_in
@[simp] theorem sign_len {c : Nat} : Str.length ⟨#[c]⟩ = 1 := (rfl)
theorem is_name_ap (h : NameOk s) : ap f_d_is_name [.str s] = some (.bl true) := by
  have l8 : s.length ≤ sizeLine := Nat.le_trans h.eight (le_line (by omega))
  have o1 : (1 : Int) ≤ (s.length : Int) := by have := h.one; omega
  have o2 : ((s.length : Int)) ≤ 8 := by have := h.eight; omega
  have loop := for_det (g := tgN 1) (mb := l1_d_is_name) (fun c => D.str ⟨#[c]⟩) (fun _ => [some (.str s), none]) s.cps.toList (fun i c hc => by
    have hin := letter_in'.mpr (h.low c (List.mem_of_getElem? hc))
    exact .inl (by simp [l1_d_is_name, ninD, inD, hin]))
  exact ap_run rfl (by simp [env0, b_d_is_name, l8, o1, o2, loop]) (by simp)
theorem init_ap (dawn : Int) (h1 : 1 ≤ dawn) (h2 : dawn ≤ 100) : apM f_m_Network_ddinit 0 [.int dawn] = some (netD true (.new dawn)) :=
  apM_run (apL_run rfl (by simp only [frzL_cons, frzL_nil, frz_int, env0, b_m_Network_ddinit]; simp [h1, h2]; rfl)) (by simp)
theorem add_keeper_ap {w : Bool} {n : Int} (hs : NameOk s) (hn : s ∉ N.names) (hl : N.names.length < 8) (h1 : 1 ≤ n) (h8 : n ≤ 8) (hlo : ∀ l ∈ N.lines, l.viewer ≠ s) :
    apL 0 f_m_Network_add_keeper [netD true N, .str s, .bl w, .int n] = some (.non, netD true (N.addK s w n)) := by
  have h3 : ¬ (8 : Int) ≤ (N.names.length : Int) := by omega
  have h4 : N.names.length < 1000000 := by omega
  have hk : kS s ∉ N.names.map kS := fun z => hn (mem_kS.mp z)
  have e : ∀ x ∈ N.names, x ≠ s := fun x hx e => hn (e ▸ hx)
  have hto : (N.to s) = [] := by simp only [Net.to, List.filter_eq_nil_iff]; intro l hl; simp [hlo l hl]
  refine apL_run rfl ?_
  simp [env0, b_m_Network_add_keeper, is_name_ap hs, hn, h3, h4, h1, h8]
  simp [netD, h4, putKey, putO_new hk, Net.addK, Net.to]
  have m1 : N.names.map (fun n => D.bl (if n = s then w else N.look n)) = N.names.map fun n => D.bl (N.look n) := List.map_congr_left fun x hx => by rw [if_neg (e x hx)]
  have m2 : N.names.map (fun x => D.int (if x = s then n else N.need x)) = N.names.map fun n => D.int (N.need n) := List.map_congr_left fun x hx => by rw [if_neg (e x hx)]
  have m3 : List.filter (fun l => decide (l.viewer = s)) N.lines = [] := hto
  rw [m1, m2, m3]; rfl
@[simp] theorem keysD_two {a c : Str} : keysD [.str a, .str c] = some [kS a, kS c] := (rfl)
@[simp] theorem look_pair : look (N.lines.map Line.pair) (N.lines.map Line.span) [kS s, kS v] = (N.span s v).map Line.span := by
  rw [look_map, find_pair]; rfl
@[simp] theorem inD_dtt {ks : List (List Key)} {ds : List D} {a c : Str} : inD (.tup [.str a, .str c]) (.dtt b ks ds) = some (.bl (look ks ds [kS a, kS c]).isSome) := (rfl)
@[simp] theorem getD1_dtt {ks : List (List Key)} {ds : List D} {a c : Str} : getD1 (.dtt b ks ds) (.tup [.str a, .str c]) = some (look ks ds [kS a, kS c]) := (rfl)
@[simp] theorem getD1_dct {ks : List Key} {ds : List D} {a : Str} : getD1 (.dct b ks ds) (.str a) = some (look ks ds (kS a)) := (rfl)
@[simp] theorem mGet1_run {mo mk : Ev → Option D} {A : Ev} : mGet1 mo mk A = (mo A).bind fun x => (mk A).bind fun k => (getD1 x k).map fun r => r.getD .non := (rfl)
@[simp] theorem mGet2_run {mo mk mf : Ev → Option D} {A : Ev} : mGet2 mo mk mf A = (mo A).bind fun x => (mk A).bind fun k => (mf A).bind fun z => (getD1 x k).map fun r => r.getD z := (rfl)
def spanD (o : Option Line) : D := match o with
  | none => .non
  | some l => l.span
theorem span_plain {o : Option Line} : (spanD o).plain = true := by cases o <;> simp [spanD]
theorem span_clean {o : Option Line} : (spanD o).clean = true := by cases o <;> simp [spanD]
theorem lateness_ap (h1 : s ∈ N.names) (h2 : v ∈ N.names) : ap f_m_Network_lateness [netD b N, .str s, .str v] = some (spanD (N.span s v)) := by
  have e : (Option.map Line.span (N.span s v)).getD .non = spanD (N.span s v) := by cases N.span s v <;> rfl
  refine ap_run rfl ?_ (.inr span_clean)
  simp [env0, b_m_Network_lateness, h1, h2, need_keeper_ap, e, span_plain]
theorem span_none {l : Line} (h : l.pair ∉ N.lines.map Line.pair) : N.span l.seen l.viewer = none := by
  unfold Net.span
  rw [List.find?_eq_none]
  intro x hx e
  simp only [Bool.and_eq_true, decide_eq_true_eq] at e
  exact h (List.mem_map.mpr ⟨x, hx, pair_inj.mpr e⟩)
theorem span_mem (nd : (N.lines.map Line.pair).Nodup) {l : Line} (h : l ∈ N.lines) : N.span l.seen l.viewer = some l := by
  unfold Net.span
  generalize N.lines = ls at *
  induction ls with
  | nil => cases h
  | cons x xs ih =>
    rw [List.map_cons, List.nodup_cons] at nd
    rcases List.mem_cons.mp h with rfl | h
    · rw [List.find?_cons_of_pos (by simp)]
    · rw [List.find?_cons_of_neg]
      · exact ih nd.2 h
      · simp only [Bool.and_eq_true, decide_eq_true_eq]
        intro e
        exact nd.1 (List.mem_map.mpr ⟨l, h, pair_inj.mpr ⟨e.1.symm, e.2.symm⟩⟩)
theorem lines_ap (nd : (N.lines.map Line.pair).Nodup) (hm : N.lines.length < 1000) : ap f_m_Network_lines [netD b N] = some (.lst true (N.lines.map Line.tup)) := by
  have loop := for_det (g := tgTup 2 (tgCons (tgN 2) (tgCons (tgN 3) tgNil))) (mb := l1_m_Network_lines) (fun l : Line => D.tup [.str l.seen, .str l.viewer])
    (fun i => [some (netD false N), some (.lst true ((N.lines.take i).map Line.tup)), none, none, none, none]) N.lines (fun i l hi => by
      have hl := List.mem_of_getElem? hi
      have hlt : min i N.lines.length < 1000000 := by omega
      refine .inl ?_
      cases hmo : l.most <;> simp [l1_m_Network_lines, tgTup, tgCons, tgNil, subscr, span_mem nd hl, Line.span, hmo, hlt, List.take_succ, hi, Line.tup])
  simp only [List.take_length] at loop
  refine ap_run rfl ?_ (by simp)
  have ek : ((fun k : List Key => D.tup (k.map keyV)) ∘ Line.pair) = fun l : Line => D.tup [.str l.seen, .str l.viewer] := rfl
  rw [show List.take 0 N.lines = [] from rfl, List.map_nil] at loop
  simp [env0, b_m_Network_lines, ek, loop]
theorem add_line_ap {l : Line} (hl : l.Ok N.names) (hn : l.pair ∉ N.lines.map Line.pair) (nd : N.names.Nodup) (hm : N.lines.length < 1000) :
    apL 0 f_m_Network_add_line [netD true N, .str l.seen, .str l.viewer, .int l.least, optD l.most] = some (.non, netD true (N.addL l)) := by
  have h0 := span_none hn
  have h4 : N.lines.length < 1000000 := by omega
  have ht : (N.to l.viewer).length < 1000000 := by have := List.length_filter_le (fun m : Line => decide (m.viewer = l.viewer)) N.lines; unfold Net.to; omega
  obtain ⟨j, hj⟩ := idx_some hl.v
  have hx : ixOf N.names l.viewer = some j := hj
  obtain ⟨e00, _⟩ := idx_set id l.viewer nd hj
  obtain ⟨_, e2⟩ := idx_set (fun n => D.lst true ((N.to n).map Line.into)) (D.lst true (((N.to l.viewer).map Line.into) ++ [l.into])) nd hj
  have e0 : N.names[j]? = some l.viewer := by simpa using e00
  clear e00
  have m3 : (N.names.map fun n => D.lst true (((N.addL l).to n).map Line.into)) = N.names.map fun n => if n = l.viewer then D.lst true (((N.to l.viewer).map Line.into) ++ [l.into]) else D.lst true ((N.to n).map Line.into) := by
    apply List.map_congr_left
    intro n _
    by_cases h : n = l.viewer
    · subst h; simp [Net.to, Net.addL]
    · rw [if_neg h]; simp [Net.to, Net.addL, Ne.symm h]
  refine apL_run rfl ?_
  have fin : netD true (N.addL l) = net6 true (.int N.dawn) (.lst true (N.names.map D.str)) (.dct true (N.names.map kS) (N.names.map fun n => .bl (N.look n))) (.dct true (N.names.map kS) (N.names.map fun n => .int (N.need n)))
    (.dtt true (N.lines.map Line.pair ++ [l.pair]) (N.lines.map Line.span ++ [l.span])) (.dct true (N.names.map kS) ((N.names.map fun n => D.lst true ((N.to n).map Line.into)).set j (D.lst true (((N.to l.viewer).map Line.into) ++ [l.into])))) := by
    rw [e2, ← m3]; simp [netD, Net.addL]
  rw [fin]
  clear fin m3 e2
  have hmost : ∀ i, l.most = some i → l.least ≤ i ∧ i ≤ 999 := hl.m
  obtain ⟨seen, viewer, least, most⟩ := l
  have hp : [kS seen, kS viewer] ∉ N.lines.map Line.pair := hn
  have g1 := hl.s; have g2 := hl.v; have g3 := hl.ne; have g4 := hl.l1; have g5 := hl.l999
  simp only at h0 ht hx e0 hmost g1 g2 g3 g4 g5
  cases most with
  | none =>
    simp [env0, b_m_Network_add_line, need_keeper_ap, g1, g2, g3, g4, g5, h0]
    simp [netD, putKey, putO_new hp, h4, hx, e0, ht, Line.pair, Line.span, Line.into]
  | some i =>
    obtain ⟨m1, m2⟩ := hmost i rfl
    simp [env0, b_m_Network_add_line, need_keeper_ap, g1, g2, g3, g4, g5, h0, m1, m2]
    simp [netD, putKey, putO_new hp, h4, hx, e0, ht, Line.pair, Line.span, Line.into]
end
end VI
set_option Elab.async false
set_option linter.all false
set_option maxRecDepth 100000
set_option autoImplicit false
/-! VDraw: what the laws draw: a cell, a row of digits, names. -/
namespace VI
open PySem L2
theorem cell_ap (ns : List Int) (k : Nat) : ap f_d_law_cell [.scr ns, .int k] = some (.int (ns.getD k 0)) := by
  refine ap_run rfl ?_ (by simp)
  by_cases h : k < ns.length
  · simp [env0, b_d_law_cell, h, atI_nat]
  · simp [env0, b_d_law_cell, h]
/-- the same of a written place -/
theorem cell_ap' (ns : List Int) (i : Int) (h : 0 ≤ i := by decide) : ap f_d_law_cell [.scr ns, .int i] = some (.int (ns.getD i.toNat 0)) := by
  have := cell_ap ns i.toNat
  rwa [Int.toNat_of_nonneg h] at this
@[simp] theorem isint_ap {i : Int} : ap f_d_law_is_integer [.int i] = some (.bl true) := ap_run rfl (by simp [env0, b_d_law_is_integer]) (by simp)
theorem range_map {n : Nat} : (List.range n).map (fun (k : Nat) => D.int (0 + k)) = (List.range n).map fun k : Nat => D.int k := by simp
/-- a range's items -/
theorem rangeD1_nat {n : Nat} (h : n ≤ 1000000) : rangeD1 [.int n] = some ((List.range n).map fun k : Nat => D.int k) := by
  unfold rangeD1
  simp only [if_pos (show (n : Int).natAbs ≤ 1000000 by omega)]
  simp
theorem rangeD1_int {i : Int} (h0 : 0 ≤ i) (h : i ≤ 1000000) : rangeD1 [.int i] = some ((List.range i.toNat).map fun k : Nat => D.int k) := by
  have := rangeD1_nat (n := i.toNat) (by omega)
  rwa [Int.toNat_of_nonneg h0] at this
theorem range_at {n i k : Nat} (h : (List.range n)[i]? = some k) : k = i ∧ i < n := by
  by_cases hi : i < n
  · rw [List.getElem?_range hi] at h; cases h; exact ⟨rfl, hi⟩
  · rw [List.getElem?_eq_none (by simpa using hi)] at h; cases h
/-- numbers from 0 to 999 -/
def Digits (row : List Int) : Prop := ∀ x ∈ row, 0 ≤ x ∧ x < 1000
theorem row_ap (c : Int) (n : Nat) (hn : n ≤ 1000) : ∃ row : List Int, row.length = n ∧ Digits row ∧ ap f_d_law_row [.int c, .int n] = some (.lst true (row.map D.int)) := by
  obtain ⟨⟨row, r, m⟩, h1, hl, hb⟩ := for_inv (g := tgN 5) (mb := l1_d_law_row) (fun k : Nat => D.int k)
    (fun s : List Int × Int × Int => [some (.int c), some (.int n), some (.lst true (s.1.map D.int)), some (.int s.2.1), some (.int s.2.2), none])
    (fun i s => s.1.length = i ∧ Digits s.1) (List.range n) ([], (if c < 0 then -c else c), (c * 48271 + 17) % 2147483647) ⟨rfl, by simp [Digits]⟩ (by
      rintro i k ⟨row, r, m⟩ hk ⟨hl, hb⟩
      obtain ⟨rfl, hi⟩ := range_at hk
      simp only at hl
      have hlen : row.length < 1000000 := by omega
      by_cases hc : (if c < 0 then -c else c) < 1000000000000000000
      · refine ⟨(row ++ [(m * 16807 + 40692) % 2147483399 / 11 % 1000], r, (m * 16807 + 40692) % 2147483399), .inl (by simp [l1_d_law_row, hc, hlen]), by simp [hl], ?_⟩
        intro x hx
        rcases List.mem_append.mp hx with hx | hx
        · exact hb x hx
        · simp at hx; subst hx; omega
      · refine ⟨(row ++ [r % 1000], r / 1000, m), .inl (by simp [l1_d_law_row, hc, hlen]), by simp [hl], ?_⟩
        intro x hx
        rcases List.mem_append.mp hx with hx | hx
        · exact hb x hx
        · simp at hx; subst hx; omega)
  simp only at hl hb
  refine ⟨row, by simpa using hl, hb, ap_run rfl ?_ (by simp)⟩
  have hr := rangeD1_nat (n := n) (by omega)
  simp only [List.map_nil] at h1
  simp [env0, b_d_law_row, hr, h1]
/-! ### names -/
theorem line_big : 1000 ≤ sizeLine := le_line (Nat.le_refl _)
theorem eqF_str {a b : Str} : eqF (.str a) (.str b) = decide (a = b) := by
  show (a == b) = _
  rw [Bool.eq_iff_iff]; simp
theorem eqF_int {a b : Int} : eqF (.int a) (.int b) = decide (a = b) := by
  show (a == b) = _
  rw [Bool.eq_iff_iff]; simp
theorem inF_str {s : Str} {ns : List Str} : inF (.str s) (ns.map D.str) = decide (s ∈ ns) := by
  unfold inF
  rw [List.any_map, Bool.eq_iff_iff]
  simp [eqF_str, Function.comp]
theorem inF_int {s : Int} {ns : List Int} : inF (.int s) (ns.map D.int) = decide (s ∈ ns) := by
  unfold inF
  rw [List.any_map, Bool.eq_iff_iff]
  simp [eqF_int, Function.comp]
@[simp] theorem inD_strs {b : Bool} {s : Str} {ns : List Str} : inD (.str s) (.lst b (ns.map D.str)) = some (.bl (decide (s ∈ ns))) := by
  show (if flatD (.str s) = true ∧ (ns.map D.str).all flatD = true then some (D.bl (inF (.str s) (ns.map D.str))) else _) = _
  rw [if_pos ⟨rfl, by simp [flatD]⟩, inF_str]
@[simp] theorem inD_ints {b : Bool} {s : Int} {ns : List Int} : inD (.int s) (.lst b (ns.map D.int)) = some (.bl (decide (s ∈ ns))) := by
  show (if flatD (.int s) = true ∧ (ns.map D.int).all flatD = true then some (D.bl (inF (.int s) (ns.map D.int))) else _) = _
  rw [if_pos ⟨rfl, by simp [flatD]⟩, inF_int]
def repS (c n : Nat) : Str := ⟨(List.replicate n c).toArray⟩
theorem foldl_app (xs : List (Array Nat)) : ∀ a : Array Nat, (xs.foldl (· ++ ·) a).toList = a.toList ++ (xs.map Array.toList).flatten := by
  induction xs with
  | nil => intro a; simp
  | cons x xs ih => intro a; rw [List.foldl_cons, ih]; simp
theorem mul_sign (c n : Nat) (hn : 1 ≤ n) : Txt.mul ⟨#[c]⟩ (n : Int) = repS c n := by
  unfold Txt.mul repS
  rw [if_neg (by omega)]
  by_cases h : n = 1
  · subst h; simp
  · have h1 : ((n : Int) == 1 || (Str.length ⟨#[c]⟩) == 0) = false := by
      have : ((n : Int) == 1) = false := by simpa using (by omega : ¬ (n : Int) = 1)
      rw [this]; rfl
    rw [h1]
    simp only [Bool.false_eq_true, if_false]
    congr 1
    apply Array.toList_inj.mp
    rw [foldl_app]
    simp
theorem repS_ok {c n : Nat} (h1 : 1 ≤ n) (h8 : n ≤ 8) (hc : 97 ≤ c ∧ c ≤ 122) : NameOk (repS c n) :=
  ⟨by simp [repS, Str.length]; omega, by simp [repS, Str.length]; omega, fun x hx => by
    simp only [repS, List.mem_replicate] at hx
    rw [hx.2]; exact hc⟩
theorem repS_inj {c d n : Nat} (h : 1 ≤ n) (e : repS c n = repS d n) : c = d := by
  unfold repS at e
  have e2 : List.replicate n c = List.replicate n d := by simpa using e
  obtain ⟨m, rfl⟩ : ∃ m, n = m + 1 := ⟨n - 1, by omega⟩
  simp [List.replicate_succ] at e2
  exact e2.1
@[simp] theorem str_len_app {a b : Str} : (a ++ b).length = a.length + b.length := by
  show (Str.append a b).length = _
  simp [Str.append, Str.length]
theorem str_app_cps {a b : Str} : (a ++ b).cps.toList = a.cps.toList ++ b.cps.toList := by
  show (Str.append a b).cps.toList = _
  simp [Str.append]
theorem nil_cps : (Str.ofString "").cps.toList = [] := by decide +kernel
theorem nil_len : (Str.ofString "").length = 0 := by decide +kernel
theorem letter_at {p : Int} (h0 : 0 ≤ p) (h : p < 26) : ∃ c, atI ((Str.ofString "abcdefghijklmnopqrstuvwxyz").cps.toList) p = some c ∧ 97 ≤ c ∧ c ≤ 122 := by
  rw [letters_eq, atI_int h0 (by simp; omega)]
  refine ⟨97 + p.toNat, ?_, by omega, by omega⟩
  rw [List.getElem?_range' (by omega)]; simp
/-- what a drawn list of numbers has at a place -/
theorem at_row {row : List Int} {i : Nat} (h : i < row.length) : atI (row.map D.int) (i : Int) = some (.int row[i]) := by
  rw [atI_nat (by simpa using h), List.getElem?_map, List.getElem?_eq_getElem h]; rfl
theorem names_ap (row : List Int) (n : Nat) (hn : n ≤ 8) (hr : n ≤ row.length) (b : Bool) :
    ∃ names : List Str, names.length = n ∧ names.Nodup ∧ (∀ s ∈ names, NameOk s) ∧ ap f_d_law_names [.lst b (row.map D.int), .int n] = some (.lst true (names.map D.str)) := by
  have bl := line_big
  have turn : ∀ (i : Nat) (names : List Str), i < n → names.length = i → names.Nodup → (∀ s ∈ names, NameOk s) →
      ∃ s, NameOk s ∧ s ∉ names ∧ l3_d_law_names [some (.lst false (row.map D.int)), some (.int n), some (.lst true (names.map D.str)), some (.int i), none, none, none, none] = some (.nx [some (.lst false (row.map D.int)), some (.int n), some (.lst true ((names ++ [s]).map D.str)), none, none, none, none, none]) := by
    intro i names hi hl hnd hok
    have hat := at_row (row := row) (i := i) (by omega)
    generalize row[i] = x at hat
    -- the letters
    obtain ⟨s1, h1, hs1, hs2⟩ := for_inv (g := tgN 5) (mb := l1_d_law_names) (fun k : Nat => D.int k)
      (fun s : Str => [some (.lst false (row.map D.int)), some (.int n), some (.lst true (names.map D.str)), some (.int i), some (.str s), none, none, none])
      (fun j s => s.length = j ∧ ∀ c ∈ s.cps.toList, 97 ≤ c ∧ c ≤ 122) (List.range (1 + x % 8).toNat) (Str.ofString "") ⟨nil_len, by rw [nil_cps]; simp⟩ (by
        rintro j k s hk ⟨hl1, hl2⟩
        obtain ⟨rfl, hj⟩ := range_at hk
        have hj8 : k < 8 := by omega
        obtain ⟨c, hc1, hc2⟩ := letter_at (p := (x * ((k : Int) + 1) + 7 * (k : Int) + (i : Int)) % 26) (by omega) (by omega)
        have sm : VI.small64 ((k : Int) + 1) = true := small64_of (by omega) (by omega)
        have h26 : 26 ≤ sizeLine := by omega
        have hsl : s.length + 1 ≤ sizeLine := by omega
        refine ⟨s ++ ⟨#[c]⟩, .inl (by simp [l1_d_law_names, hat, sm, hc1, letters_len, h26, hsl]), by simp [hl1], ?_⟩
        intro y hy
        rw [str_app_cps] at hy
        rcases List.mem_append.mp hy with hy | hy
        · exact hl2 y hy
        · simp at hy; subst hy; exact hc2)
    simp only [List.length_range] at hs1
    have ok1 : NameOk s1 := ⟨by omega, by omega, hs2⟩
    -- what stands already
    obtain ⟨s2, h2, ok2, hin⟩ := for_inv (g := tgN 6) (mb := l2_d_law_names) (fun k : Nat => D.str ⟨#[115 + k]⟩)
      (fun s : Str => [some (.lst false (row.map D.int)), some (.int n), some (.lst true (names.map D.str)), some (.int i), some (.str s), none, none, none])
      (fun j s => NameOk s ∧ (s ∈ names → ∀ m < j, repS (115 + m) (i + 1) ∈ names)) (List.range 8) s1 ⟨ok1, fun _ m hm => by omega⟩ (by
        rintro j k s hk ⟨ok, hin⟩
        obtain ⟨rfl, hj⟩ := range_at hk
        by_cases hs : s ∈ names
        · have hm : mulD (.str ⟨#[115 + k]⟩) (.int ((i : Int) + 1)) = some (.str (repS (115 + k) (i + 1))) := by
            show (if _ then some (D.str (Txt.mul _ _)) else none) = _
            rw [if_pos ⟨by simp, by omega, by omega⟩, ← mul_sign (115 + k) (i + 1) (by omega)]
            rfl
          refine ⟨repS (115 + k) (i + 1), .inl (by simp [l2_d_law_names, hs, hm]), repS_ok (by omega) (by omega) (by omega), fun hs' m hm => ?_⟩
          by_cases hm2 : m = k
          · subst hm2; exact hs'
          · exact hin hs m (by omega)
        · exact ⟨s, .inl (by simp [l2_d_law_names, hs]), ok, fun h => absurd h hs⟩)
    have hns : s2 ∉ names := fun h => by
      have hall := hin h
      have hsub : ((List.range 8).map fun m => repS (115 + m) (i + 1)) ⊆ names := fun y hy => by
        simp only [List.mem_map, List.mem_range] at hy
        obtain ⟨m, hm, rfl⟩ := hy
        exact hall m (by simpa using hm)
      have hnd2 : ((List.range 8).map fun m => repS (115 + m) (i + 1)).Nodup := by
        show List.Pairwise _ _
        rw [List.pairwise_map]
        refine List.Pairwise.imp (fun {a b} h e => h ?_) List.nodup_range
        have := repS_inj (by omega) e
        omega
      have := hnd2.length_le_of_subset hsub
      simp at this
      omega
    have hr1 := rangeD1_int (i := 1 + x % 8) (by omega) (by omega)
    have hit : items' (.str "stuvwxyz") = some ((List.range 8).map fun k => D.str ⟨#[115 + k]⟩) := by
      simp only [items_str]
      rw [show (Str.ofString "stuvwxyz").cps.toList = List.range' 115 8 from by decide +kernel]; rfl
    have hlen : names.length < 1000000 := by omega
    exact ⟨s2, ok2, hns, by simp [l3_d_law_names, hat, hr1, h1, hit, h2, hlen]⟩
  obtain ⟨names, h1, hl, hnd, hok⟩ := for_inv (g := tgN 3) (mb := l3_d_law_names) (fun k : Nat => D.int k)
    (fun names : List Str => [some (.lst false (row.map D.int)), some (.int n), some (.lst true (names.map D.str)), none, none, none, none, none])
    (fun i names => names.length = i ∧ names.Nodup ∧ ∀ s ∈ names, NameOk s) (List.range n) [] ⟨rfl, List.nodup_nil, by simp⟩ (by
      rintro i k names hk ⟨hl, hnd, hok⟩
      obtain ⟨rfl, hi⟩ := range_at hk
      obtain ⟨s, k1, k2, k3⟩ := turn k names hi hl hnd hok
      refine ⟨names ++ [s], .inl (by simpa using k3), by simp [hl], ?_, ?_⟩
      · rw [List.nodup_append]; exact ⟨hnd, by simp, fun a ha b hb e => k2 (by simp at hb; rw [← hb, ← e]; exact ha)⟩
      · intro y hy
        rcases List.mem_append.mp hy with hy | hy
        · exact hok y hy
        · simp at hy; subst hy; exact k1)
  simp only [List.length_range] at hl
  refine ⟨names, hl, hnd, hok, ap_run rfl ?_ (by simp)⟩
  have hr1 := rangeD1_nat (n := n) (by omega)
  simp only [List.map_nil] at h1
  simp [env0, b_d_law_names, hr1, h1]
theorem row_at {row : List Int} {i : Int} (h0 : 0 ≤ i) (h : i < row.length) : ∃ x, atI (row.map D.int) i = some (.int x) ∧ x ∈ row := by
  obtain ⟨k, rfl⟩ := Int.eq_ofNat_of_zero_le h0
  exact ⟨_, at_row (by omega), List.getElem_mem _⟩
theorem map_at {α : Type} {f : α → D} {xs : List α} {i : Nat} {x : α} (h : xs[i]? = some x) : atI (xs.map f) (i : Int) = some (f x) := by
  rw [atI_nat (by simpa using (List.getElem?_eq_some_iff.mp h).1), List.getElem?_map, h]; rfl
theorem get_some {α : Type} {xs : List α} {i : Nat} (h : i < xs.length) : ∃ x, xs[i]? = some x ∧ x ∈ xs := ⟨_, List.getElem?_eq_getElem h, List.getElem_mem _⟩
/-- a written cell, a written number of digits -/
theorem cell_ex (ns : List Int) (i : Int) (h : 0 ≤ i := by decide) : ∃ c, ap f_d_law_cell [.scr ns, .int i] = some (.int c) := ⟨_, cell_ap' ns i h⟩
theorem row_ex (c i : Int) (h0 : 0 ≤ i := by decide) (hn : i ≤ 1000 := by decide) : ∃ row : List Int, (row.length : Int) = i ∧ Digits row ∧ ap f_d_law_row [.int c, .int i] = some (.lst true (row.map D.int)) := by
  obtain ⟨k, rfl⟩ := Int.eq_ofNat_of_zero_le h0
  obtain ⟨row, h1, h2, h3⟩ := row_ap c k (by omega)
  exact ⟨row, by rw [h1], h2, h3⟩
/-- a part of a list -/
theorem slice_mid {b : Bool} {f : Int → D} {xs : List Int} {i j : Int} (hf : ∀ x, (f x).plain = true) (h0 : 0 ≤ i) (h1 : i ≤ j) (h2 : j ≤ xs.length) : sliceD (.lst b (xs.map f)) (some i) (some j) = some (.lst true (((xs.drop i.toNat).take (j.toNat - i.toNat)).map f)) := by
  obtain ⟨k, rfl⟩ := Int.eq_ofNat_of_zero_le h0
  obtain ⟨m, rfl⟩ := Int.eq_ofNat_of_zero_le (Int.le_trans h0 h1)
  rw [sliceD_lst]
  rw [if_pos (plainL_map fun x _ => hf x), cut_mid (by simp; omega) (by simp; omega)]
  simp
theorem Digits.part {row : List Int} (h : Digits row) (i j : Nat) : Digits ((row.drop i).take j) := fun x hx => h x (List.mem_of_mem_drop (List.mem_of_mem_take hx))
/-- a part of a row -/
theorem row_part {b : Bool} {row : List Int} (hb : Digits row) (i j : Int) (h0 : 0 ≤ i) (h1 : i ≤ j) (h2 : j ≤ row.length) : ∃ part : List Int, (part.length : Int) = j - i ∧ Digits part ∧ sliceD (.lst b (row.map D.int)) (some i) (some j) = some (.lst true (part.map D.int)) :=
  ⟨_, by simp; omega, hb.part _ _, slice_mid (fun _ => rfl) h0 h1 h2⟩
theorem names_ex (row : List Int) (i : Int) (h0 : 0 ≤ i) (hn : i ≤ 8) (hr : i ≤ row.length) (b : Bool) :
    ∃ names : List Str, (names.length : Int) = i ∧ names.Nodup ∧ (∀ s ∈ names, NameOk s) ∧ ap f_d_law_names [.lst b (row.map D.int), .int i] = some (.lst true (names.map D.str)) := by
  obtain ⟨k, rfl⟩ := Int.eq_ofNat_of_zero_le h0
  obtain ⟨names, h1, h2⟩ := names_ap row k (by omega) (by omega) b
  exact ⟨names, by rw [h1], h2⟩
/-- values for the items of a list without repetitions, as a function -/
theorem fun_of {α β : Type} [DecidableEq α] (z : β) : ∀ {xs : List α} {ys : List β}, xs.Nodup → ys.length = xs.length → ∃ f : α → β, xs.map f = ys ∧ ∀ x ∈ xs, f x ∈ ys
  | [], ys, _, h => ⟨fun _ => z, by simp [List.length_eq_zero_iff.mp h], by simp⟩
  | x :: xs, [], _, h => by simp at h
  | x :: xs, y :: ys, nd, h => by
    obtain ⟨n1, n2⟩ := List.nodup_cons.mp nd
    obtain ⟨f, hf, hm⟩ := fun_of z n2 (by simpa using h)
    refine ⟨fun a => if a = x then y else f a, ?_, ?_⟩
    · rw [List.map_cons, if_pos rfl, ← hf]
      congr 1
      exact List.map_congr_left fun a ha => by rw [if_neg (fun (e : a = x) => n1 (by rw [← e]; exact ha))]
    · intro a ha
      simp only
      split
      · simp
      · rcases List.mem_cons.mp ha with rfl | ha
        · contradiction
        · exact List.mem_cons_of_mem _ (hm a ha)
end VI
set_option Elab.async false
set_option linter.all false
set_option maxRecDepth 100000
set_option autoImplicit false
/-! VEq: == and in, over nested data. -/
namespace VI
open PySem L2
mutual
/-- data of at most this depth -/
def D.fit : Nat → D → Bool
  | _, .non => true
  | _, .bl _ => true
  | _, .int _ => true
  | _, .str s => PyData.strOk s
  | n + 1, .tup xs => fitL n xs
  | n + 1, .lst _ xs => fitL n xs
  | _, _ => false
def D.fitL : Nat → List D → Bool
  | _, [] => true
  | n, x :: xs => x.fit n && fitL n xs
end
mutual
def D.same : D → D → Bool
  | .non, .non => true
  | .bl a, .bl b => decide (a = b)
  | .bl a, .int b => decide ((if a then 1 else 0) = b)
  | .int a, .bl b => decide (a = (if b then 1 else 0))
  | .int a, .int b => decide (a = b)
  | .str a, .str b => decide (a = b)
  | .tup xs, .tup ys => sameL xs ys
  | .lst _ xs, .lst _ ys => sameL xs ys
  | _, _ => false
def D.sameL : List D → List D → Bool
  | [], [] => true
  | x :: xs, y :: ys => x.same y && sameL xs ys
  | _, _ => false
end
mutual
theorem fit_py : ∀ {n : Nat} {x : D}, x.fit n = true → ∃ p, x.py = some p ∧ p.canLay0 = true ∧ p.depth ≤ n
  | n, .non, _ => ⟨_, rfl, rfl, Nat.zero_le _⟩
  | n, .bl _, _ => ⟨_, rfl, rfl, Nat.zero_le _⟩
  | n, .int _, _ => ⟨_, rfl, rfl, Nat.zero_le _⟩
  | n, .str s, h => ⟨_, rfl, by simpa [D.fit, PyData.canLay0] using h, Nat.zero_le _⟩
  | 0, .tup xs, h => by simp [D.fit] at h
  | 0, .lst _ xs, h => by simp [D.fit] at h
  | n + 1, .tup xs, h => by
    obtain ⟨ps, e, c, d⟩ := fitL_py (n := n) (xs := xs) (by simpa [D.fit] using h)
    exact ⟨.tuple ps, by simp [D.py, e], by simpa [PyData.canLay0] using c, by simp [PyData.depth]; omega⟩
  | n + 1, .lst _ xs, h => by
    obtain ⟨ps, e, c, d⟩ := fitL_py (n := n) (xs := xs) (by simpa [D.fit] using h)
    exact ⟨.list ps, by simp [D.py, e], by simpa [PyData.canLay0] using c, by simp [PyData.depth]; omega⟩
  | n, .dct _ _ _, h => by cases n <;> simp [D.fit] at h
  | n, .dtt _ _ _, h => by cases n <;> simp [D.fit] at h
  | n, .obj _ _ _ _, h => by cases n <;> simp [D.fit] at h
  | n, .scr _, h => by cases n <;> simp [D.fit] at h
  | n, .ktup _, h => by cases n <;> simp [D.fit] at h
theorem fitL_py : ∀ {n : Nat} {xs : List D}, D.fitL n xs = true → ∃ ps, D.pyL xs = some ps ∧ PyData.canLayAll0 ps = true ∧ PyData.depthAll ps ≤ n
  | n, [], _ => ⟨[], rfl, rfl, Nat.zero_le _⟩
  | n, x :: xs, h => by
    simp only [D.fitL, Bool.and_eq_true] at h
    obtain ⟨p, e, c, d⟩ := fit_py h.1
    obtain ⟨ps, es, cs, ds⟩ := fitL_py h.2
    exact ⟨p :: ps, by simp [D.pyL, e, es], by simp [PyData.canLayAll0, c, cs], by simp [PyData.depthAll]; omega⟩
end
theorem beq_dec {α : Type} [DecidableEq α] (a b : α) : (a == b) = decide (a = b) := by rw [Bool.eq_iff_iff]; simp
mutual
theorem same_py : ∀ {x y : D} {p q : PyData}, x.py = some p → y.py = some q → PyData.eqv p q = x.same y
  | .non, y, p, q, h, k => by cases y <;> simp [D.py] at h k <;> (try obtain ⟨_, _, rfl⟩ := k) <;> (try subst k) <;> subst h <;> simp [PyData.eqv, D.same]
  | .bl a, y, p, q, h, k => by cases y <;> simp [D.py] at h k <;> (try obtain ⟨_, _, rfl⟩ := k) <;> (try subst k) <;> subst h <;> simp [PyData.eqv, D.same, beq_dec]
  | .int a, y, p, q, h, k => by cases y <;> simp [D.py] at h k <;> (try obtain ⟨_, _, rfl⟩ := k) <;> (try subst k) <;> subst h <;> simp [PyData.eqv, D.same, beq_dec]
  | .str a, y, p, q, h, k => by cases y <;> simp [D.py] at h k <;> (try obtain ⟨_, _, rfl⟩ := k) <;> (try subst k) <;> subst h <;> simp [PyData.eqv, D.same, beq_dec]
  | .tup xs, y, p, q, h, k => by
    simp only [D.py, Option.map_eq_some_iff] at h
    obtain ⟨ps, h, rfl⟩ := h
    cases y <;> simp [D.py] at k <;> (try obtain ⟨qs, k, rfl⟩ := k) <;> (try subst k) <;> simp [PyData.eqv, D.same]
    exact sameL_py h k
  | .lst _ xs, y, p, q, h, k => by
    simp only [D.py, Option.map_eq_some_iff] at h
    obtain ⟨ps, h, rfl⟩ := h
    cases y <;> simp [D.py] at k <;> (try obtain ⟨qs, k, rfl⟩ := k) <;> (try subst k) <;> simp [PyData.eqv, D.same]
    exact sameL_py h k
  | .dct _ _ _, _, _, _, h, _ => by simp [D.py] at h
  | .dtt _ _ _, _, _, _, h, _ => by simp [D.py] at h
  | .obj _ _ _ _, _, _, _, h, _ => by simp [D.py] at h
  | .scr _, _, _, _, h, _ => by simp [D.py] at h
  | .ktup _, _, _, _, h, _ => by simp [D.py] at h
theorem sameL_py : ∀ {xs ys : List D} {ps qs : List PyData}, D.pyL xs = some ps → D.pyL ys = some qs → PyData.eqvAll ps qs = D.sameL xs ys
  | [], ys, ps, qs, h, k => by
    cases h
    cases ys with
    | nil => cases k; rfl
    | cons y ys =>
      simp only [D.pyL, Option.bind_eq_some_iff, Option.map_eq_some_iff] at k
      obtain ⟨_, _, _, _, rfl⟩ := k
      rfl
  | x :: xs, ys, ps, qs, h, k => by
    simp only [D.pyL, Option.bind_eq_some_iff, Option.map_eq_some_iff] at h
    obtain ⟨p, h1, ps, h2, rfl⟩ := h
    cases ys with
    | nil => cases k; rfl
    | cons y ys =>
      simp only [D.pyL, Option.bind_eq_some_iff, Option.map_eq_some_iff] at k
      obtain ⟨q, k1, qs, k2, rfl⟩ := k
      simp only [PyData.eqvAll, D.sameL, same_py h1 k1, sameL_py h2 k2]
end
theorem eqP_fit {x y : D} (h : x.fit 64 = true) (k : y.fit 64 = true) : eqP x y = some (x.same y) := by
  obtain ⟨p, e, c, d⟩ := fit_py h
  obtain ⟨q, e2, c2, d2⟩ := fit_py k
  unfold eqP
  rw [e, e2]
  simp only [Option.bind_some]
  rw [if_pos ⟨by simp [SeqAt.shaped, c, d], by simp [SeqAt.shaped, c2, d2]⟩, same_py e e2]
theorem eqD_fit {x y : D} (h : x.fit 64 = true) (k : y.fit 64 = true) : eqD x y = some (.bl (x.same y)) := by
  have e := eqP_fit h k
  cases x <;> cases y <;> simp only [eqD, e, Option.map_some] <;> simp [D.same] <;> simp [D.fit] at h
theorem neD_fit {x y : D} (h : x.fit 64 = true) (k : y.fit 64 = true) : neD x y = some (.bl (!x.same y)) := by
  unfold neD
  rw [eqD_fit h k]
theorem eqF_same {x y : D} (h : flatD x = true) (k : flatD y = true) : eqF x y = x.same y := by
  cases x <;> simp [flatD] at h <;> cases y <;> simp [flatD] at k <;> simp [eqF, D.same, beq_dec]
theorem any_py {x : D} {p : PyData} (e : x.py = some p) : ∀ {xs : List D} {ps : List PyData}, D.pyL xs = some ps → (ps.any fun z => PyData.eqv z p) = xs.any fun y => y.same x
  | [], ps, h => by cases h; rfl
  | z :: zs, ps, h => by
    simp only [D.pyL, Option.bind_eq_some_iff, Option.map_eq_some_iff] at h
    obtain ⟨q, k1, qs, k2, rfl⟩ := h
    simp only [List.any_cons, same_py k1 e, any_py e k2]
theorem inF_same {x : D} (h : flatD x = true) : ∀ {xs : List D}, xs.all flatD = true → inF x xs = xs.any fun y => y.same x
  | [], _ => rfl
  | z :: zs, k => by
    simp only [List.all_cons, Bool.and_eq_true] at k
    have ih := inF_same h k.2
    unfold inF at ih ⊢
    simp only [List.any_cons, eqF_same k.1 h, ih]
theorem inD_fit {b : Bool} {x : D} {xs : List D} (h : x.fit 63 = true) (k : D.fitL 63 xs = true) : inD x (.lst b xs) = some (.bl (xs.any fun y => y.same x)) := by
  show (if flatD x = true ∧ xs.all flatD = true then some (D.bl (inF x xs)) else (inP x xs).map .bl) = _
  split
  · rename_i hf
    rw [inF_same hf.1 hf.2]
  · obtain ⟨p, e, c, d⟩ := fit_py h
    obtain ⟨ps, e2, c2, d2⟩ := fitL_py k
    unfold inP
    rw [e, e2]
    simp only [Option.bind_some]
    rw [if_pos ⟨by simp [SeqAt.shaped, c]; omega, by simp [SeqAt.shaped, PyData.canLay0, PyData.depth, c2]; omega⟩, any_py e e2]
    rfl
@[simp] theorem same_nn : D.same .non .non = true := (rfl)
@[simp] theorem same_ii {a b : Int} : D.same (.int a) (.int b) = decide (a = b) := (rfl)
@[simp] theorem same_bb {a b : Bool} : D.same (.bl a) (.bl b) = decide (a = b) := (rfl)
@[simp] theorem same_ss {a b : Str} : D.same (.str a) (.str b) = decide (a = b) := (rfl)
@[simp] theorem same_tt {a b : List D} : D.same (.tup a) (.tup b) = D.sameL a b := (rfl)
@[simp] theorem same_ll {a b : List D} {m n : Bool} : D.same (.lst m a) (.lst n b) = D.sameL a b := (rfl)
@[simp] theorem sameL_nn : D.sameL [] [] = true := (rfl)
@[simp] theorem sameL_cc {x y : D} {xs ys : List D} : D.sameL (x :: xs) (y :: ys) = (x.same y && D.sameL xs ys) := (rfl)
@[simp] theorem sameL_nc {y : D} {ys : List D} : D.sameL [] (y :: ys) = false := (rfl)
@[simp] theorem sameL_cn {x : D} {xs : List D} : D.sameL (x :: xs) [] = false := (rfl)
@[simp] theorem fit_non {n : Nat} : D.fit n .non = true := by cases n <;> rfl
@[simp] theorem fit_int {n : Nat} {i : Int} : D.fit n (.int i) = true := by cases n <;> rfl
@[simp] theorem fit_bl {n : Nat} {i : Bool} : D.fit n (.bl i) = true := by cases n <;> rfl
@[simp] theorem fit_str {n : Nat} {s : Str} : D.fit n (.str s) = PyData.strOk s := by cases n <;> rfl
@[simp] theorem fit_tup {n : Nat} {xs : List D} : D.fit (n + 1) (.tup xs) = D.fitL n xs := (rfl)
@[simp] theorem fit_lst {n : Nat} {b : Bool} {xs : List D} : D.fit (n + 1) (.lst b xs) = D.fitL n xs := (rfl)
@[simp] theorem fitL_nil {n : Nat} : D.fitL n [] = true := by cases n <;> rfl
@[simp] theorem fitL_cons {n : Nat} {x : D} {xs : List D} : D.fitL n (x :: xs) = (x.fit n && D.fitL n xs) := by cases n <;> rfl
@[simp] theorem fitL_append {n : Nat} {xs ys : List D} : D.fitL n (xs ++ ys) = (D.fitL n xs && D.fitL n ys) := by induction xs with | nil => simp | cons x xs ih => simp [ih, Bool.and_assoc]
@[simp] theorem fitL_map {α : Type} {n : Nat} {g : α → D} {xs : List α} : D.fitL n (xs.map g) = xs.all fun x => (g x).fit n := by induction xs with | nil => simp | cons x xs ih => simp [ih]
@[simp] theorem fitL_take {α : Type} {n j : Nat} {g : α → D} {xs : List α} : D.fitL n ((xs.map g).take j) = (xs.take j).all fun x => (g x).fit n := by rw [← List.map_take, fitL_map]
@[simp] theorem fitL_drop {α : Type} {n j : Nat} {g : α → D} {xs : List α} : D.fitL n ((xs.map g).drop j) = (xs.drop j).all fun x => (g x).fit n := by rw [← List.map_drop, fitL_map]
theorem sameL_map {α : Type} [DecidableEq α] {g h : α → D} (inj : ∀ a c : α, (g a).same (h c) = decide (a = c)) : ∀ xs ys : List α, D.sameL (xs.map g) (ys.map h) = decide (xs = ys)
  | [], [] => rfl
  | [], y :: ys => rfl
  | x :: xs, [] => rfl
  | x :: xs, y :: ys => by
    simp only [List.map_cons, sameL_cc, inj, sameL_map inj xs ys, List.cons.injEq, Bool.decide_and]
@[simp] theorem sameL_ints {xs ys : List Int} : D.sameL (xs.map D.int) (ys.map D.int) = decide (xs = ys) := sameL_map (fun _ _ => rfl) xs ys
@[simp] theorem sameL_strs {xs ys : List Str} : D.sameL (xs.map D.str) (ys.map D.str) = decide (xs = ys) := sameL_map (fun _ _ => rfl) xs ys
@[simp] theorem sameL_bls {xs ys : List Bool} : D.sameL (xs.map D.bl) (ys.map D.bl) = decide (xs = ys) := sameL_map (fun _ _ => rfl) xs ys
mutual
theorem same_refl : ∀ {n : Nat} {x : D}, x.fit n = true → x.same x = true
  | n, .non, _ => rfl
  | n, .bl _, _ => by simp
  | n, .int _, _ => by simp
  | n, .str s, h => by simp
  | 0, .tup xs, h => by simp [D.fit] at h
  | 0, .lst _ xs, h => by simp [D.fit] at h
  | n + 1, .tup xs, h => by simp only [same_tt]; exact sameL_refl (n := n) (by simpa using h)
  | n + 1, .lst _ xs, h => by simp only [same_ll]; exact sameL_refl (n := n) (by simpa using h)
  | n, .dct _ _ _, h => by cases n <;> simp [D.fit] at h
  | n, .dtt _ _ _, h => by cases n <;> simp [D.fit] at h
  | n, .obj _ _ _ _, h => by cases n <;> simp [D.fit] at h
  | n, .scr _, h => by cases n <;> simp [D.fit] at h
  | n, .ktup _, h => by cases n <;> simp [D.fit] at h
theorem sameL_refl : ∀ {n : Nat} {xs : List D}, D.fitL n xs = true → D.sameL xs xs = true
  | n, [], _ => rfl
  | n, x :: xs, h => by
    simp only [fitL_cons, Bool.and_eq_true] at h
    simp only [sameL_cc, same_refl h.1, sameL_refl h.2, Bool.and_self]
end
section
variable {x y : D} {xs ys : List D} {b c : Bool}
@[simp] theorem eqD_tt (h : D.fitL 63 xs = true) (k : D.fitL 63 ys = true) : eqD (.tup xs) (.tup ys) = some (.bl (D.sameL xs ys)) := eqD_fit (x := .tup xs) (y := .tup ys) h k
@[simp] theorem eqD_ll (h : D.fitL 63 xs = true) (k : D.fitL 63 ys = true) : eqD (.lst b xs) (.lst c ys) = some (.bl (D.sameL xs ys)) := eqD_fit (x := .lst b xs) (y := .lst c ys) h k
@[simp] theorem neD_tt (h : D.fitL 63 xs = true) (k : D.fitL 63 ys = true) : neD (.tup xs) (.tup ys) = some (.bl (!D.sameL xs ys)) := neD_fit (x := .tup xs) (y := .tup ys) h k
@[simp] theorem neD_ll (h : D.fitL 63 xs = true) (k : D.fitL 63 ys = true) : neD (.lst b xs) (.lst c ys) = some (.bl (!D.sameL xs ys)) := neD_fit (x := .lst b xs) (y := .lst c ys) h k
@[simp] theorem inD_tl (h : D.fitL 62 xs = true) (k : D.fitL 63 ys = true) : inD (.tup xs) (.lst c ys) = some (.bl (ys.any fun y => y.same (.tup xs))) := inD_fit (x := .tup xs) h k
@[simp] theorem ninD_tl (h : D.fitL 62 xs = true) (k : D.fitL 63 ys = true) : ninD (.tup xs) (.lst c ys) = some (.bl (!ys.any fun y => y.same (.tup xs))) := by
  unfold ninD; rw [inD_tl h k]
@[simp] theorem ninD_strs {s : Str} {ns : List Str} : ninD (.str s) (.lst b (ns.map D.str)) = some (.bl (!decide (s ∈ ns))) := by
  unfold ninD; rw [inD_strs]
@[simp] theorem ninD_dct {ks : List Key} {ds : List D} {s : Str} : ninD (.str s) (.dct b ks ds) = some (.bl (!(look ks ds (kS s)).isSome)) := (rfl)
end
theorem NameOk.fit {s : Str} (h : NameOk s) : PyData.strOk s = true := by
  unfold PyData.strOk
  rw [← Array.all_toList, List.all_eq_true]
  intro c hc
  have := h.low c hc
  simp only [decide_eq_true_eq]; omega
@[simp] theorem optD_fit {n : Nat} {o : Option Int} : (optD o).fit n = true := by cases o <;> simp
@[simp] theorem optD_same {o p : Option Int} : (optD o).same (optD p) = decide (o = p) := by cases o <;> cases p <;> simp [D.same]
@[simp] theorem sameL_self {xs : List D} (h : D.fitL 63 xs = true) : D.sameL xs xs = true := sameL_refl h
@[simp] theorem line_tup_fit {n : Nat} {l : Line} : l.tup.fit (n + 1) = (PyData.strOk l.seen && PyData.strOk l.viewer) := by simp [Line.tup]
@[simp] theorem line_tup_same {l m : Line} : l.tup.same m.tup = decide (l = m) := by
  obtain ⟨a, b, c, d⟩ := l
  obtain ⟨a', b', c', d'⟩ := m
  simp only [Line.tup, same_tt, sameL_cc, same_ss, same_ii, optD_same, sameL_nn, Bool.and_true, Line.mk.injEq]
  simp only [Bool.decide_and]
@[simp] theorem sameL_lines {xs ys : List Line} : D.sameL (xs.map Line.tup) (ys.map Line.tup) = decide (xs = ys) := sameL_map (fun _ _ => line_tup_same) xs ys
/-- lines whose names are texts -/
def linesFit (ls : List Line) : Bool := ls.all fun l => PyData.strOk l.seen && PyData.strOk l.viewer
@[simp 1100] theorem fitL_lines {n : Nat} {ls : List Line} : D.fitL (n + 1) (ls.map Line.tup) = linesFit ls := by rw [fitL_map]; simp only [line_tup_fit]; rfl
@[simp 1100] theorem fitL_linesT {n j : Nat} {ls : List Line} : D.fitL (n + 1) ((ls.map Line.tup).take j) = linesFit (ls.take j) := by rw [← List.map_take, fitL_lines]
theorem linesFit_of {ls : List Line} (h : ∀ l ∈ ls, NameOk l.seen ∧ NameOk l.viewer) : linesFit ls = true := by
  unfold linesFit
  rw [List.all_eq_true]
  intro l hl
  simp [(h l hl).1.fit, (h l hl).2.fit]
end VI
set_option Elab.async false
set_option linter.all false
set_option maxRecDepth 100000
set_option autoImplicit false
/-! VCase: tables, moments; a network as the laws write it. -/
namespace VI
open PySem L2
/-- a table -/
def tblD (b : Bool) (ks : List Str) (T : Str → Int) : D := .dct b (ks.map kS) (ks.map fun n => .int (T n))
section
variable {b c : Bool} {ks : List Str} {T : Str → Int} {s : Str}
@[simp] theorem tbl_frz : (tblD b ks T).frz = tblD false ks T := by simp [tblD]
@[simp] theorem tbl_plain : (tblD b ks T).plain = !b := rfl
@[simp] theorem tbl_clean : (tblD b ks T).clean = b := by simp [tblD]
theorem tbl_sub (h : s ∈ ks) : subscr (tblD b ks T) (.str s) = some (.int (T s)) := by simp [tblD, h]
@[simp] theorem tbl_in : inD (.str s) (tblD b ks T) = some (.bl (decide (s ∈ ks))) := by
  by_cases h : s ∈ ks <;> simp [tblD, h]
@[simp] theorem tbl_keys : keysOf (tblD false ks T) = some (ks.map D.str) := by
  simp [tblD]; exact fun _ _ => rfl
@[simp] theorem tbl_lst : lstD [tblD b ks T] = some (.lst true (ks.map D.str)) := by
  simp [tblD]; exact fun _ _ => rfl
end
/-! ### moments -/
def momentC (ls : List Line) (T : Str → Int) (d : Int) : Int := ls.foldl (fun m l => if l.most = none then m else min m (T l.seen + l.least)) d
def dims (ls : List Line) (T : Str → Int) : List Int := (ls.filter fun l => decide (l.most = none)).map fun l => T l.seen + l.least
def moment (ls : List Line) (T : Str → Int) (need d : Int) : Int := if need ≤ (dims ls T).length then min (momentC ls T d) ((sortI (dims ls T)).getD (need.toNat - 1) 0) else momentC ls T d
theorem momentC_app {ls ms : List Line} {T : Str → Int} {d : Int} : momentC (ls ++ ms) T d = momentC ms T (momentC ls T d) := by simp [momentC]
theorem dims_app {ls ms : List Line} {T : Str → Int} : dims (ls ++ ms) T = dims ls T ++ dims ms T := by simp [dims]
theorem sortI_len {xs : List Int} : (sortI xs).length = xs.length := (sortI_perm xs).length_eq
theorem moment_ap {b c : Bool} {ls : List Line} {ks : List Str} {T : Str → Int} {need d : Int} (h : ∀ l ∈ ls, l.seen ∈ ks) (hn : 1 ≤ need) (hl : ls.length < 1000000) :
    ap f_d_moment_along [.lst b (ls.map Line.into), tblD c ks T, .int need, .int d] = some (.int (moment ls T need d)) := by
  have loop := for_det (g := tgTup 3 (tgCons (tgN 6) (tgCons (tgN 7) (tgCons (tgN 8) tgNil)))) (mb := l1_d_moment_along) Line.into
    (fun i => [some (.lst false (ls.map Line.into)), some (tblD false ks T), some (.int need), none, some (.int (momentC (ls.take i) T d)), some (.lst true ((dims (ls.take i) T).map D.int)), none, none, none]) ls (fun i l hi => by
      have hm := h l (List.mem_of_getElem? hi)
      have hlen : (dims (ls.take i) T).length < 1000000 := by
        have := List.length_filter_le (fun l : Line => decide (l.most = none)) (ls.take i)
        simp only [dims, List.length_map]
        simp at this; omega
      have htake : ls.take (i + 1) = ls.take i ++ [l] := by rw [List.take_succ, hi]; rfl
      refine .inl ?_
      rw [htake, momentC_app, dims_app]
      generalize dims (ls.take i) T = ds at hlen
      generalize momentC (ls.take i) T d = mc
      cases hmo : l.most <;> simp [l1_d_moment_along, Line.into, tgTup, tgCons, tgNil, hmo, tbl_sub hm, hlen, momentC, dims])
  simp only [List.take_length] at loop
  refine ap_run rfl ?_ (by simp)
  have e0 : (dims (ls.take 0) T).map D.int = [] := rfl
  have e1 : momentC (ls.take 0) T d = d := rfl
  rw [e0, e1] at loop
  by_cases hd : need ≤ (dims ls T).length
  · have hat : atI ((sortI (dims ls T)).map D.int) (need - 1) = some (.int ((sortI (dims ls T)).getD (need.toNat - 1) 0)) := by
      obtain ⟨k, hk⟩ : ∃ k : Nat, need - 1 = k := ⟨(need - 1).toNat, by omega⟩
      have : need.toNat - 1 = k := by omega
      rw [hk, this, atI_nat (by simp [sortI_len]; omega), List.getElem?_map, List.getD_eq_getElem?_getD, List.getElem?_eq_getElem (by rw [sortI_len]; omega)]
      rfl
    simp [env0, b_d_moment_along, loop, hd, hat, moment]
  · simp [env0, b_d_moment_along, loop, hd, moment]
def Net.soonest (N : Net) (T : Str → Int) (s : Str) : Int := moment (N.to s) T (N.need s) N.dawn
def dueF (ls : List Line) (T : Str → Int) (d : Int) : Int := ls.foldl (fun m l => match l.most with | none => m | some k => min m (T l.seen + k)) d
def Net.due (N : Net) (T : Str → Int) (s : Str) : Int := dueF (N.to s) T N.dawn
theorem to_mem {N : Net} {s : Str} {l : Line} (h : l ∈ N.to s) : l ∈ N.lines ∧ l.viewer = s := by
  unfold Net.to at h
  rw [List.mem_filter] at h
  exact ⟨h.1, by simpa using h.2⟩
theorem to_len {N : Net} {s : Str} : (N.to s).length ≤ N.lines.length := List.length_filter_le _ _
section
variable {b c : Bool} {N : Net} {ks : List Str} {T : Str → Int} {s : Str}
theorem soonest_ap (h : s ∈ N.names) (hk : ∀ l ∈ N.lines, l.seen ∈ ks) (hn : 1 ≤ N.need s) (hl : N.lines.length < 1000000) : ap f_d_soonest [netD b N, tblD c ks T, .str s] = some (.int (N.soonest T s)) := by
  have hm := moment_ap (b := true) (c := false) (ls := N.to s) (ks := ks) (T := T) (need := N.need s) (d := N.dawn) (fun l hl => hk l (to_mem hl).1) hn (Nat.lt_of_le_of_lt to_len hl)
  exact ap_run rfl (by simp [env0, b_d_soonest, need_of_ap h, lines_to_ap h, hm, Net.soonest]) (by simp)
theorem due_ap (h : s ∈ N.names) (hk : ∀ l ∈ N.lines, l.seen ∈ ks) : ap f_d_due [netD b N, tblD c ks T, .str s] = some (.int (N.due T s)) := by
  have loop := for_det (g := tgTup 3 (tgCons (tgN 4) (tgCons (tgN 5) (tgCons (tgN 6) tgNil)))) (mb := l1_d_due) Line.into
    (fun i => [some (netD false N), some (tblD false ks T), some (.str s), some (.int (dueF ((N.to s).take i) T N.dawn)), none, none, none]) (N.to s) (fun i l hi => by
      have hm := hk l (to_mem (List.mem_of_getElem? hi)).1
      have htake : (N.to s).take (i + 1) = (N.to s).take i ++ [l] := by rw [List.take_succ, hi]; rfl
      refine .inl ?_
      rw [htake]
      cases hmo : l.most <;> simp [l1_d_due, Line.into, tgTup, tgCons, tgNil, hmo, tbl_sub hm, dueF])
  simp only [List.take_length] at loop
  have e1 : dueF ((N.to s).take 0) T N.dawn = N.dawn := rfl
  rw [e1] at loop
  exact ap_run rfl (by simp [env0, b_d_due, need_keeper_ap h, lines_to_ap h, loop, Net.due]) (by simp)
end
/-! ### a network as the laws write it -/
def lineL (b : Bool) (l : Line) : D := .lst b [.str l.seen, .str l.viewer, .int l.least, optD l.most]
@[simp] theorem lineL_frz {b : Bool} {l : Line} : (lineL b l).frz = lineL false l := by simp [lineL]
@[simp] theorem lineL_plain {b : Bool} {l : Line} : (lineL b l).plain = !b := rfl
@[simp] theorem lineL_clean {b : Bool} {l : Line} : (lineL b l).clean = b := by simp [lineL]
def caseE (b c e : Bool) (N : Net) : D := .lst b [.int N.dawn, .lst c (N.names.map D.str), .lst c (N.names.map fun n => .bl (N.look n)), .lst c (N.names.map fun n => .int (N.need n)), .lst e (N.lines.map (lineL false))]
abbrev caseD (b c : Bool) (N : Net) : D := caseE b c c N
section
variable {b c e : Bool} {N : Net}
@[simp] theorem caseD_frz : (caseE b c e N).frz = caseE false false false N := by simp [caseE]
@[simp] theorem caseD_plain : (caseE b c e N).plain = !b := rfl
@[simp] theorem case0 : subscr (caseE b c e N) (.int 0) = some (.int N.dawn) := by simp [caseE]
@[simp] theorem case1 : subscr (caseE b c e N) (.int 1) = some (.lst c (N.names.map D.str)) := by simp [caseE]
@[simp] theorem case2 : subscr (caseE b c e N) (.int 2) = some (.lst c (N.names.map fun n => .bl (N.look n))) := by simp [caseE]
@[simp] theorem case3 : subscr (caseE b c e N) (.int 3) = some (.lst c (N.names.map fun n => .int (N.need n))) := by simp [caseE]
@[simp] theorem case4 : subscr (caseE b c e N) (.int 4) = some (.lst e (N.lines.map (lineL false))) := by simp [caseE]
end
section
variable {b : Bool} {l : Line}
@[simp] theorem line0 : subscr (lineL b l) (.int 0) = some (.str l.seen) := by simp [lineL]
@[simp] theorem line1 : subscr (lineL b l) (.int 1) = some (.str l.viewer) := by simp [lineL]
@[simp] theorem line2 : subscr (lineL b l) (.int 2) = some (.int l.least) := by simp [lineL]
@[simp] theorem line3 : subscr (lineL b l) (.int 3) = some (optD l.most) := by simp [lineL]
end
/-- alike where it matters -/
theorem netD_congr {b : Bool} {N M : Net} (h0 : N.dawn = M.dawn) (h1 : N.names = M.names) (h2 : ∀ s ∈ N.names, N.look s = M.look s ∧ N.need s = M.need s) (h3 : N.lines = M.lines) : netD b N = netD b M := by
  have e : ∀ s, N.to s = M.to s := fun s => by unfold Net.to; rw [h3]
  unfold netD
  rw [← h1, h0, h3]
  have e1 : N.names.map (fun n => D.bl (N.look n)) = N.names.map fun n => D.bl (M.look n) := List.map_congr_left fun x hx => by rw [(h2 x hx).1]
  have e2 : N.names.map (fun n => D.int (N.need n)) = N.names.map fun n => D.int (M.need n) := List.map_congr_left fun x hx => by rw [(h2 x hx).2]
  rw [e1, e2]
  simp only [e]
theorem addK_ap {N : Net} (ok : N.Ok) {i : Nat} {s : Str} (h : N.names[i]? = some s) :
    apL 0 f_m_Network_add_keeper [netD true { N with names := N.names.take i, lines := [] }, .str s, .bl (N.look s), .int (N.need s)] = some (.non, netD true { N with names := N.names.take (i + 1), lines := [] }) := by
  have hi := (List.getElem?_eq_some_iff.mp h).1
  have hm := List.mem_of_getElem? h
  have htake : N.names.take (i + 1) = N.names.take i ++ [s] := by rw [List.take_succ, h]; rfl
  have hnot : s ∉ N.names.take i := by
    have hp : (N.names.take (i + 1)).Nodup := ok.nd.sublist (List.take_sublist _ _)
    rw [htake, List.nodup_append] at hp
    exact fun z => hp.2.2 s z s (by simp) rfl
  rw [add_keeper_ap (ok.nok s hm) hnot (by have := ok.len; simp; omega) (ok.n1 s hm).1 (ok.n1 s hm).2 (by simp)]
  congr 2
  refine netD_congr rfl (by simp [Net.addK, htake]) (fun x hx => ?_) rfl
  simp only [Net.addK]
  constructor <;> split <;> simp_all
theorem addL_ap {N : Net} (ok : N.Ok) {i : Nat} {l : Line} (h : N.lines[i]? = some l) (hm : N.lines.length < 1000) :
    apL 0 f_m_Network_add_line [netD true { N with lines := N.lines.take i }, .str l.seen, .str l.viewer, .int l.least, optD l.most] = some (.non, netD true { N with lines := N.lines.take (i + 1) }) := by
  have htake : N.lines.take (i + 1) = N.lines.take i ++ [l] := by rw [List.take_succ, h]; rfl
  have hnot : l.pair ∉ (N.lines.take i).map Line.pair := by
    have hp : ((N.lines.take (i + 1)).map Line.pair).Nodup := by rw [List.map_take]; exact ok.prs.sublist (List.take_sublist _ _)
    rw [htake, List.map_append, List.nodup_append] at hp
    exact fun z => hp.2.2 _ z l.pair (by simp) rfl
  rw [add_line_ap (N := { N with lines := N.lines.take i }) (ok.lok l (List.mem_of_getElem? h)) hnot ok.nd (by simp; omega)]
  simp [Net.addL, htake]
theorem network_v2_ap {N : Net} {b c e : Bool} (ok : N.Ok) (hm : N.lines.length < 1000) : ap f_d_law_network_v2 [caseE b c e N] = some (netD true N) := by
  have h1 := for_det (g := tgN 2) (mb := l1_d_law_network_v2) (fun k : Nat => D.int k) (fun i => [some (caseD false false N), some (netD true { N with names := N.names.take i, lines := [] }), none, none]) (List.range N.names.length) (fun i k hk => by
    obtain ⟨rfl, hi⟩ := range_at hk
    obtain ⟨s, hs, _⟩ := get_some hi
    have a1 := map_at (f := D.str) hs
    have a2 := map_at (f := fun n => D.bl (N.look n)) hs
    have a3 := map_at (f := fun n => D.int (N.need n)) hs
    exact .inl (by simp [l1_d_law_network_v2, a1, a2, a3, addK_ap ok hs]))
  have h2 := for_det (g := tgN 3) (mb := l2_d_law_network_v2) (lineL false) (fun i => [some (caseD false false N), some (netD true { N with lines := N.lines.take i }), none, none]) N.lines (fun i l hi => by
    exact .inl (by simp [l2_d_law_network_v2, addL_ap ok hi hm]))
  have hr := rangeD1_nat (n := N.names.length) (by have := ok.len; omega)
  have hi := init_ap N.dawn ok.d1 ok.d100
  have e0 : netD true (Net.new N.dawn) = netD true { N with names := N.names.take 0, lines := [] } := netD_congr rfl (by simp [Net.new]) (by simp [Net.new]) rfl
  rw [e0] at hi
  simp only [List.length_range, List.take_length, List.take_zero] at h1 h2 hi
  exact ap_run rfl (by simp [env0, b_d_law_network_v2, hi, hr, h1, h2]) (by simp)
/-! ### dicts compared -/
theorem dctEq_tbl {ks ls : List Str} {T : Str → Int} (hl : ks.length = ls.length) (h : ∀ s ∈ ks, s ∈ ls) : dctEq (ks.map kS) (ks.map fun n => .int (T n)) (ls.map kS) (ls.map fun n => .int (T n)) = true := by
  unfold dctEq
  simp only [List.length_map, hl, decide_true, Bool.true_and, List.all_eq_true]
  intro p hp
  rw [List.zip_map', List.mem_map] at hp
  obtain ⟨s, hs, rfl⟩ := hp
  simp [h s hs, sameF]
theorem tbl_eq {b c : Bool} {ks ls : List Str} {T : Str → Int} (hl : ks.length = ls.length) (h : ∀ s ∈ ks, s ∈ ls) : eqD (tblD b ks T) (tblD c ls T) = some (.bl true) := by
  show (if dctEq _ _ _ _ = true then some (D.bl true) else none) = _
  rw [if_pos (dctEq_tbl hl h)]
/-- a key more -/
theorem tbl_put {ks : List Str} {T : Str → Int} {s : Str} {i : Int} (h : s ∉ ks) (hl : ks.length < 1000000) : putKey (tblD true ks T) (.str s) (.int i) = some (tblD true (ks ++ [s]) fun x => if x = s then i else T x) := by
  have hk : kS s ∉ ks.map kS := fun z => h (mem_kS.mp z)
  have e : ∀ x ∈ ks, x ≠ s := fun x hx e => h (e ▸ hx)
  have m2 : ks.map (fun x => D.int (if x = s then i else T x)) = ks.map fun n => D.int (T n) := List.map_congr_left fun x hx => by rw [if_neg (e x hx)]
  simp [tblD, putKey, hl, putO_new hk, m2]
/-- .. a key anew -/
theorem tbl_reput {ks : List Str} {T : Str → Int} {s : Str} {i : Int} (nd : ks.Nodup) (h : s ∈ ks) (hl : ks.length < 1000000) : putKey (tblD true ks T) (.str s) (.int i) = some (tblD true ks fun x => if x = s then i else T x) := by
  obtain ⟨j, hj⟩ := idx_some h
  obtain ⟨_, e2⟩ := idx_set (fun n => D.int (T n)) (D.int i) nd hj
  have hx : ixOf (ks.map kS) (kS s) = some j := by rw [ix_kS]; exact hj
  have hp : putO (ks.map kS) (ks.map fun n => D.int (T n)) (kS s) (.int i) = some (ks.map kS, (ks.map fun n => D.int (T n)).set j (.int i)) := by
    unfold putO
    unfold ixOf at hx
    rw [hx]
    simp only
    rw [if_pos (nodup_kS nd)]
  have m2 : ks.map (fun x => if x = s then D.int i else D.int (T x)) = ks.map fun x => D.int (if x = s then i else T x) := List.map_congr_left fun x _ => by split <;> rfl
  rw [e2, m2] at hp
  simp [tblD, putKey, hl, hp]
theorem tbl_congr {b : Bool} {ks : List Str} {T U : Str → Int} (h : ∀ s ∈ ks, T s = U s) : tblD b ks T = tblD b ks U := by
  unfold tblD
  rw [show ks.map (fun n => D.int (T n)) = ks.map fun n => D.int (U n) from List.map_congr_left fun x hx => by rw [h x hx]]
/-! ### spans drawn -/
theorem span_v2_ap (dg one two : Int) : ∃ a b : Int, 1 ≤ a ∧ a ≤ b ∧ b ≤ 999 ∧ ap f_d_law_span_v2 [.int dg, .int one, .int two] = some (.lst true [.int a, .int b]) := by
  obtain ⟨u, hu, u1, u2⟩ : ∃ u : Int, atI [D.int 6, D.int 20, D.int 100, D.int 999] (dg % 4) = some (.int u) ∧ 1 ≤ u ∧ u ≤ 999 := by
    have : dg % 4 = 0 ∨ dg % 4 = 1 ∨ dg % 4 = 2 ∨ dg % 4 = 3 := by omega
    rcases this with e | e | e | e <;> rw [e]
    · exact ⟨6, at0, by omega, by omega⟩
    · exact ⟨20, at1, by omega, by omega⟩
    · exact ⟨100, at2, by omega, by omega⟩
    · exact ⟨999, at3, by omega, by omega⟩
  obtain ⟨w, hw, w1, w2⟩ : ∃ u : Int, atI [D.int 1, D.int 6, D.int 40, D.int 999] (dg / 4 % 4) = some (.int u) ∧ 1 ≤ u ∧ u ≤ 999 := by
    have : dg / 4 % 4 = 0 ∨ dg / 4 % 4 = 1 ∨ dg / 4 % 4 = 2 ∨ dg / 4 % 4 = 3 := by omega
    rcases this with e | e | e | e <;> rw [e]
    · exact ⟨1, at0, by omega, by omega⟩
    · exact ⟨6, at1, by omega, by omega⟩
    · exact ⟨40, at2, by omega, by omega⟩
    · exact ⟨999, at3, by omega, by omega⟩
  obtain ⟨a, ha⟩ : ∃ a, 1 + one % u = a := ⟨_, rfl⟩
  have a1 : 1 ≤ a ∧ a ≤ 999 := by
    have := Int.emod_nonneg one (b := u) (by omega)
    have := Int.emod_lt_of_pos one (b := u) (by omega)
    omega
  obtain ⟨m, hm⟩ : ∃ m, min w (1000 - a) = m := ⟨_, rfl⟩
  have m1 : 1 ≤ m ∧ m ≤ 1000 - a := by omega
  have hml : minD [.lst true [.int w, .int (1000 - a)]] = some (.int m) := by
    have := minD_lst (b := true) (ns := [w, 1000 - a])
    simpa [minL, hm] using this
  have r1 := Int.emod_nonneg two (b := m) (by omega)
  have r2 := Int.emod_lt_of_pos two (b := m) (by omega)
  have hu0 : 0 < u := by omega
  have hm0 : 0 < m := by omega
  refine ⟨a, a + two % m, by omega, by omega, by omega, ap_run rfl ?_ (by simp)⟩
  simp [env0, b_d_law_span_v2, hu, hu0, ha, hw, hml, hm0]
theorem right_v3_ap {b : Bool} {f d : Int} {sums : List Int} (h1 : f ≤ d) (h2 : ∀ s ∈ sums, f ≤ s) (h3 : f = d ∨ f ∈ sums) : ap f_d_law_right_v3 [.int f, .lst b (sums.map D.int), .int d] = some (.bl true) := by
  have h4 : ¬ d < f := by omega
  have loop := for_det (g := tgN 3) (mb := l1_d_law_right_v3) D.int (fun _ => [some (.int f), some (.lst false (sums.map D.int)), some (.int d), none]) sums (fun i x hx => by
    have : ¬ x < f := by have := h2 x (List.mem_of_getElem? hx); omega
    exact .inl (by simp [l1_d_law_right_v3, this]))
  exact ap_run rfl (by simp [env0, b_d_law_right_v3, h4, loop, h3]) (by simp)
/-! ### stars of lines -/
/-- what is known of the lines drawn for the first k names -/
structure SInv (names : List Str) (vw : Str) (k : Nat) (ls : List Line) : Prop where
  len : ls.length ≤ 2 * k
  ok : ∀ l ∈ ls, l.Ok names
  nd : (ls.map Line.pair).Nodup
  at_ : ∀ l ∈ ls, ∃ j < k, (l.viewer = vw ∧ names[j]? = some l.seen) ∨ (l.seen = vw ∧ names[j]? = some l.viewer)
theorem pairs_app {ls : List Line} {l : Line} (h : (ls.map Line.pair).Nodup) (n : ∀ m ∈ ls, m.pair ≠ l.pair) : ((ls ++ [l]).map Line.pair).Nodup := by
  rw [List.map_append, List.nodup_append]
  refine ⟨h, by simp, fun a ha b hb e => ?_⟩
  simp at hb; subst hb
  obtain ⟨m, hm, rfl⟩ := List.mem_map.mp ha
  exact n m hm e
/-- at most a line to the viewer and one from it -/
theorem SInv.step {names : List Str} {vw s : Str} {k : Nat} {ls : List Line} (i : SInv names vw k ls) (nd : names.Nodup) (hs : names[k]? = some s) (o1 o2 : Option Line) (h1 : ∀ l, o1 = some l → l.Ok names ∧ l.seen = s ∧ l.viewer = vw) (h2 : ∀ l, o2 = some l → l.Ok names ∧ l.seen = vw ∧ l.viewer = s) :
    SInv names vw (k + 1) (ls ++ o1.toList ++ o2.toList) := by
  have old : ∀ m ∈ ls, ∀ l : Line, (l.seen = s ∧ l.viewer = vw ∨ l.seen = vw ∧ l.viewer = s) → s ≠ vw → m.pair ≠ l.pair := by
    intro m hm l hl hne e
    obtain ⟨e1, e2⟩ := pair_inj.mp e
    obtain ⟨j, hj, h⟩ := i.at_ m hm
    rcases hl with ⟨q1, q2⟩ | ⟨q1, q2⟩ <;> rcases h with ⟨g1, g2⟩ | ⟨g1, g2⟩
    · rw [e1, q1] at g2; have := nodup_ix nd g2 hs; omega
    · exact hne (by rw [← q1, ← e1, g1])
    · exact hne (by rw [← q2, ← e2, g1])
    · rw [e2, q2] at g2; have := nodup_ix nd g2 hs; omega
  have ne : ∀ l : Line, l.Ok names → (l.seen = s ∧ l.viewer = vw ∨ l.seen = vw ∧ l.viewer = s) → s ≠ vw := fun l ok h e => ok.ne (by rcases h with ⟨a, b⟩ | ⟨a, b⟩ <;> rw [a, b, e])
  refine ⟨?_, ?_, ?_, ?_⟩
  · have := i.len
    cases o1 <;> cases o2 <;> simp <;> omega
  · intro l hl
    simp only [List.mem_append, Option.mem_toList] at hl
    rcases hl with (hl | hl) | hl
    · exact i.ok l hl
    · exact (h1 l hl).1
    · exact (h2 l hl).1
  · have n1 : ((ls ++ o1.toList).map Line.pair).Nodup := by
      cases o1 with
      | none => simpa using i.nd
      | some l =>
        obtain ⟨q1, q2, q3⟩ := h1 l rfl
        exact pairs_app i.nd fun m hm => old m hm l (.inl ⟨q2, q3⟩) (ne l q1 (.inl ⟨q2, q3⟩))
    cases o2 with
    | none => simpa using n1
    | some l =>
      obtain ⟨q1, q2, q3⟩ := h2 l rfl
      refine pairs_app n1 fun m hm => ?_
      rcases List.mem_append.mp hm with hm | hm
      · exact old m hm l (.inr ⟨q2, q3⟩) (ne l q1 (.inr ⟨q2, q3⟩))
      · cases o1 with
        | none => simp at hm
        | some l' =>
          simp at hm; subst hm
          obtain ⟨p1, p2, p3⟩ := h1 m rfl
          intro e
          obtain ⟨e1, _⟩ := pair_inj.mp e
          exact ne l q1 (.inr ⟨q2, q3⟩) (by rw [← p2, e1, q2])
  · intro l hl
    simp only [List.mem_append, Option.mem_toList] at hl
    rcases hl with (hl | hl) | hl
    · obtain ⟨j, hj, h⟩ := i.at_ l hl
      exact ⟨j, by omega, h⟩
    · obtain ⟨_, q2, q3⟩ := h1 l hl
      exact ⟨k, by omega, .inl ⟨q3, by rw [q2]; exact hs⟩⟩
    · obtain ⟨_, q2, q3⟩ := h2 l hl
      exact ⟨k, by omega, .inr ⟨q2, by rw [q3]; exact hs⟩⟩
theorem minF_spec {α : Type} (f : α → Option Int) : ∀ (ls : List α) (d : Int), let m := ls.foldl (fun m l => match f l with | none => m | some k => min m k) d
    m ≤ d ∧ (∀ l ∈ ls, ∀ k, f l = some k → m ≤ k) ∧ (m = d ∨ ∃ l ∈ ls, f l = some m)
  | [], d => ⟨Int.le_refl _, by simp, .inl rfl⟩
  | l :: ls, d => by
    simp only [List.foldl_cons]
    cases hf : f l with
    | none =>
      obtain ⟨h1, h2, h3⟩ := minF_spec f ls d
      refine ⟨h1, fun x hx k hk => ?_, h3.imp id fun ⟨x, hx, e⟩ => ⟨x, by simp [hx], e⟩⟩
      rcases List.mem_cons.mp hx with rfl | hx
      · rw [hf] at hk; cases hk
      · exact h2 x hx k hk
    | some k0 =>
      obtain ⟨h1, h2, h3⟩ := minF_spec f ls (min d k0)
      refine ⟨by simp only; omega, fun x hx k hk => ?_, ?_⟩
      · rcases List.mem_cons.mp hx with rfl | hx
        · rw [hf] at hk; cases hk; simp only; omega
        · exact h2 x hx k hk
      · rcases h3 with h3 | ⟨x, hx, e⟩
        · rcases Int.le_total d k0 with h | h
          · exact .inl (by simp only; rw [h3]; omega)
          · exact .inr ⟨l, by simp, by rw [h3, hf]; congr 1; omega⟩
        · exact .inr ⟨x, by simp [hx], e⟩
theorem momentC_min {ls : List Line} {T : Str → Int} {d : Int} : momentC ls T d = ls.foldl (fun m l => match (if l.most = none then none else some (T l.seen + l.least)) with | none => m | some k => min m k) d := by
  unfold momentC
  congr 1
  funext m l
  split <;> rfl
@[simp] theorem lineL_fit {n : Nat} {b : Bool} {l : Line} : (lineL b l).fit (n + 1) = (PyData.strOk l.seen && PyData.strOk l.viewer) := by simp [lineL]
theorem eq_nil {xs : List Line} {b c : Bool} (h : ∀ l ∈ xs, PyData.strOk l.seen = true ∧ PyData.strOk l.viewer = true) : eqD (.lst b (xs.map (lineL false))) (.lst c []) = some (.bl (decide (xs = []))) := by
  rw [eqD_ll (by simpa using h) (by simp)]
  cases xs <;> simp
/-! ### tables drawn -/
theorem times_ap {N : Net} {b c d e : Bool} {row : List Int} (ok : N.Ok) (hr : N.names.length ≤ row.length) : ∃ T : Str → Int, ap f_d_law_times [caseE b c e N, .lst d (row.map D.int)] = some (tblD true N.names T) := by
  have hlen := ok.len
  obtain ⟨T, h1, _⟩ := for_invI (g := tgN 3) (mb := l1_d_law_times) (fun k : Nat => D.int k) (fun i (T : Str → Int) => [some (caseD false false N), some (.lst false (row.map D.int)), some (tblD true (N.names.take i) T), none])
    (fun _ _ => True) (List.range N.names.length) (fun _ => 0) trivial (by
      rintro i k T hk _
      obtain ⟨rfl, hi⟩ := range_at hk
      obtain ⟨s, hs, _⟩ := get_some hi
      have a1 := map_at (f := D.str) hs
      obtain ⟨x, hx, _⟩ := row_at (row := row) (i := (k : Int)) (by omega) (by omega)
      have htake : N.names.take (k + 1) = N.names.take k ++ [s] := by rw [List.take_succ, hs]; rfl
      have hnd : (N.names.take (k + 1)).Nodup := ok.nd.sublist (List.take_sublist _ _)
      have hnot : s ∉ N.names.take k := by
        have := hnd
        rw [htake, List.nodup_append] at this
        exact fun z => this.2.2 s z s (by simp) rfl
      have p1 := tbl_put (T := T) (i := N.dawn) hnot (by simp; omega)
      rw [← htake] at p1
      have hd := ok.d1
      have hd1 : 0 < N.dawn + 1 := by omega
      by_cases h5 : 0 < x % 5
      · have p2 := tbl_reput (s := s) (T := fun y => if y = s then N.dawn else T y) (i := x / 5 % (N.dawn + 1)) hnd (by rw [htake]; simp) (by simp; omega)
        exact ⟨_, .inl (by simp [l1_d_law_times, a1, hx, h5, hd1, p1, p2]; rfl), trivial⟩
      · exact ⟨_, .inl (by simp [l1_d_law_times, a1, hx, h5, p1]; rfl), trivial⟩)
  simp only [List.length_range, List.take_length, List.take_zero] at h1
  have hr := rangeD1_nat (n := N.names.length) (by omega)
  exact ⟨T, ap_run rfl (by simp only [env0, b_d_law_times]; simp [hr]; simp [tblD] at h1 ⊢; simp [h1]) (by simp)⟩
end VI
set_option Elab.async false
set_option linter.all false
set_option maxRecDepth 100000
set_option autoImplicit false
namespace VI
open PySem L2
theorem network_ap {N : Net} {b c e : Bool} (ok : N.Ok) (hm : N.lines.length < 1000) : ap f_d_law_network [caseE b c e N] = some (netD true N) := by
  have h1 := for_det (g := tgN 2) (mb := l1_d_law_network) (fun k : Nat => D.int k) (fun i => [some (caseD false false N), some (netD true { N with names := N.names.take i, lines := [] }), none, none]) (List.range N.names.length) (fun i k hk => by
    obtain ⟨rfl, hi⟩ := range_at hk
    obtain ⟨s, hs, _⟩ := get_some hi
    have a1 := map_at (f := D.str) hs
    have a2 := map_at (f := fun n => D.bl (N.look n)) hs
    have a3 := map_at (f := fun n => D.int (N.need n)) hs
    exact .inl (by simp [l1_d_law_network, a1, a2, a3, addK_ap ok hs]))
  have h2 := for_det (g := tgN 3) (mb := l2_d_law_network) (lineL false) (fun i => [some (caseD false false N), some (netD true { N with lines := N.lines.take i }), none, none]) N.lines (fun i l hi => by
    exact .inl (by simp [l2_d_law_network, addL_ap ok hi hm]))
  have hr := rangeD1_nat (n := N.names.length) (by have := ok.len; omega)
  have hi := init_ap N.dawn ok.d1 ok.d100
  have e0 : netD true (Net.new N.dawn) = netD true { N with names := N.names.take 0, lines := [] } := netD_congr rfl (by simp [Net.new]) (by simp [Net.new]) rfl
  rw [e0] at hi
  simp only [List.length_range, List.take_length, List.take_zero] at h1 h2 hi
  exact ap_run rfl (by simp [env0, b_d_law_network, hi, hr, h1, h2]) (by simp)
theorem times2_ap {N : Net} {b c d e : Bool} {row : List Int} (ok : N.Ok) (hr : N.names.length ≤ row.length) : ∃ T : Str → Int, (∀ s ∈ N.names, 0 ≤ T s ∧ T s ≤ N.dawn) ∧ ap f_d_law_times_v2 [caseE b c e N, .lst d (row.map D.int)] = some (tblD true N.names T) := by
  have hlen := ok.len
  obtain ⟨T, h1, hT⟩ := for_invI (g := tgN 3) (mb := l1_d_law_times_v2) (fun k : Nat => D.int k) (fun i (T : Str → Int) => [some (caseD false false N), some (.lst false (row.map D.int)), some (tblD true (N.names.take i) T), none])
    (fun i T => ∀ s ∈ N.names.take i, 0 ≤ T s ∧ T s ≤ N.dawn) (List.range N.names.length) (fun _ => 0) (by simp) (by
      rintro i k T hk hT
      obtain ⟨rfl, hi⟩ := range_at hk
      obtain ⟨s, hs, _⟩ := get_some hi
      have a1 := map_at (f := D.str) hs
      obtain ⟨x, hx, _⟩ := row_at (row := row) (i := (k : Int)) (by omega) (by omega)
      have htake : N.names.take (k + 1) = N.names.take k ++ [s] := by rw [List.take_succ, hs]; rfl
      have hnd : (N.names.take (k + 1)).Nodup := ok.nd.sublist (List.take_sublist _ _)
      have hnot : s ∉ N.names.take k := by
        have := hnd
        rw [htake, List.nodup_append] at this
        exact fun z => this.2.2 s z s (by simp) rfl
      have p1 := tbl_put (T := T) (i := N.dawn) hnot (by simp; omega)
      rw [← htake] at p1
      have hd := ok.d1
      have hd1 : 0 < N.dawn + 1 := by omega
      have hT2 : ∀ d : Int, 0 ≤ d → d ≤ N.dawn → ∀ U : Str → Int, (∀ y, U y = if y = s then d else T y) → ∀ s ∈ N.names.take (k + 1), 0 ≤ U s ∧ U s ≤ N.dawn := fun d d0 d1 U hU y hy => by
        rw [hU]
        by_cases e : y = s
        · rw [if_pos e]; exact ⟨d0, d1⟩
        · rw [if_neg e]
          rw [htake] at hy
          rcases List.mem_append.mp hy with hy | hy
          · exact hT y hy
          · exact absurd (by simpa using hy) e
      have r0 := Int.emod_nonneg (x / 5) (b := N.dawn + 1) (by omega)
      have r1 := Int.emod_lt_of_pos (x / 5) (b := N.dawn + 1) (by omega)
      by_cases h5 : 0 < x % 5
      · have p2 := tbl_reput (s := s) (T := fun y => if y = s then N.dawn else T y) (i := x / 5 % (N.dawn + 1)) hnd (by rw [htake]; simp) (by simp; omega)
        exact ⟨_, .inl (by simp [l1_d_law_times_v2, a1, hx, h5, hd1, p1, p2]; rfl), hT2 _ r0 (by omega) _ fun y => by by_cases e : y = s <;> simp [e]⟩
      · exact ⟨_, .inl (by simp [l1_d_law_times_v2, a1, hx, h5, p1]), hT2 _ (by omega) (Int.le_refl _) _ fun y => rfl⟩)
  simp only [List.length_range, List.take_length, List.take_zero] at h1 hT
  have hr := rangeD1_nat (n := N.names.length) (by omega)
  exact ⟨T, hT, ap_run rfl (by simp only [env0, b_d_law_times_v2]; simp [hr]; simp [tblD] at h1 ⊢; simp [h1]) (by simp)⟩
theorem index_str {b : Bool} {names : List Str} {i : Nat} {s : Str} (nd : names.Nodup) (h : names[i]? = some s) : indexD (.lst b (names.map D.str)) (.str s) = some (.int i) := by
  have hi := (List.getElem?_eq_some_iff.mp h).1
  have e : (names.map D.str).findIdx? (fun z => eqF z (.str s)) = some i := by
    rw [List.findIdx?_eq_some_iff_getElem]
    refine ⟨by simpa using hi, by simp [eqF, (List.getElem?_eq_some_iff.mp h).2], fun j hj => ?_⟩
    have hjl : j < names.length := by omega
    simp only [List.getElem_map, eqF, beq_iff_eq]
    intro e
    have := L2.nodup_ix nd (List.getElem?_eq_getElem hjl) (e ▸ h)
    omega
  unfold indexD
  simp only
  rw [if_pos ⟨rfl, by simp [flatD]⟩, e]
  rfl
theorem sorted_count : ∀ (ys : List Int) (n : Nat) (t : Int), ys.Pairwise (· ≤ ·) → n < ys.length → (ys.getD n 0 ≤ t ↔ n < (ys.filter fun y => decide (y ≤ t)).length)
  | [], n, t, _, h => by simp at h
  | y :: ys, n, t, hp, h => by
    rw [List.pairwise_cons] at hp
    by_cases hy : y ≤ t
    · rw [List.filter_cons_of_pos (by simpa using hy)]
      cases n with
      | zero => simp [hy]
      | succ n =>
        have := sorted_count ys n t hp.2 (by simpa using h)
        simp only [List.getD_cons_succ, List.length_cons]
        omega
    · have hn : (ys.filter fun y => decide (y ≤ t)) = [] := by
        rw [List.filter_eq_nil_iff]
        intro a ha
        have := hp.1 a ha
        simp; omega
      rw [List.filter_cons_of_neg (by simpa using hy), hn]
      cases n with
      | zero => simp; omega
      | succ n =>
        simp only [List.getD_cons_succ, List.length_nil, Nat.not_lt_zero, iff_false]
        have hl : n < ys.length := by simpa using h
        have := hp.1 (ys.getD n 0) (by rw [List.getD_eq_getElem?_getD, List.getElem?_eq_getElem hl]; simp)
        omega
theorem sort_count {xs : List Int} {n : Nat} {t : Int} (h : n < xs.length) : (sortI xs).getD n 0 ≤ t ↔ n < (xs.filter fun y => decide (y ≤ t)).length := by
  rw [sorted_count _ n t (sortI_sorted xs) (by rw [sortI_len]; exact h), ((sortI_perm xs).filter _).length_eq]
theorem cut_but {α : Type} (xs : List α) : cutD xs none (some (-1)) = xs.take (xs.length - 1) := by
  unfold cutD HT.sIx
  simp
  omega
theorem cut_last {α : Type} (xs : List α) : cutD xs (some (-1)) none = xs.drop (xs.length - 1) := by
  unfold cutD HT.sIx
  simp
  rw [List.take_of_length_le (by simp)]
  congr 1
  omega
/-- a clear line shows s a fire by t; a dim line -/
def clearBy (T : Str → Int) (s : Str) (t : Int) (l : Line) : Bool := decide (l.viewer = s) && (decide (l.most ≠ none) && decide (T l.seen + l.least ≤ t))
def dimBy (T : Str → Int) (s : Str) (t : Int) (l : Line) : Bool := decide (l.viewer = s) && (decide (l.most = none) && decide (T l.seen + l.least ≤ t))
def enough (N : Net) (T : Str → Int) (s : Str) (t : Int) : Bool := N.lines.any (clearBy T s t) || decide (N.need s ≤ (N.lines.filter (dimBy T s t)).length)
theorem enough_loop {cs : Option D} {ks : List Str} {T : Str → Int} {s : Str} {t : Int} : ∀ (xs : List Line) (n : Nat), (∀ l ∈ xs, l.seen ∈ ks) →
    (xs.any (clearBy T s t) = true → ∃ A, forB (tgN 5) l1_d_law_enough (xs.map (lineL false)) [cs, some (tblD false ks T), some (.str s), some (.int t), some (.int n), none] = some (.rt (.bl true) A)) ∧
    (xs.any (clearBy T s t) = false → forB (tgN 5) l1_d_law_enough (xs.map (lineL false)) [cs, some (tblD false ks T), some (.str s), some (.int t), some (.int n), none] = some (.nx [cs, some (tblD false ks T), some (.str s), some (.int t), some (.int ((n + (xs.filter (dimBy T s t)).length : Nat) : Int)), none]))
  | [], n, _ => ⟨by simp, fun _ => by simp⟩
  | x :: xs, n, h => by
    have hs := tbl_sub (b := false) (T := T) (h x (by simp))
    obtain ⟨i0, i0'⟩ := enough_loop (cs := cs) (T := T) (s := s) (t := t) xs n fun l hl => h l (by simp [hl])
    obtain ⟨i1, i1'⟩ := enough_loop (cs := cs) (T := T) (s := s) (t := t) xs (n + 1) fun l hl => h l (by simp [hl])
    rw [List.map_cons]
    by_cases hv : x.viewer = s
    · by_cases ht : T x.seen + x.least ≤ t
      · cases hm : x.most with
        | none =>
          have hc : clearBy T s t x = false := by simp [clearBy, hm]
          have hd : dimBy T s t x = true := by simp [dimBy, hm, hv, ht]
          have g : Goes ((tgN 5 (lineL false x) [cs, some (tblD false ks T), some (.str s), some (.int t), some (.int n), none]).bind l1_d_law_enough) [cs, some (tblD false ks T), some (.str s), some (.int t), some (.int ((n + 1 : Nat) : Int)), none] :=
            .inl (by simp [l1_d_law_enough, hs, hv, ht, hm, optD])
          rw [forB_goes g, List.any_cons, hc, Bool.false_or, List.filter_cons_of_pos hd, List.length_cons, show n + ((xs.filter (dimBy T s t)).length + 1) = n + 1 + (xs.filter (dimBy T s t)).length from by omega]
          exact ⟨i1, i1'⟩
        | some k =>
          have hc : clearBy T s t x = true := by simp [clearBy, hm, hv, ht]
          rw [List.any_cons, hc, Bool.true_or]
          refine ⟨fun _ => ?_, fun e => by simp at e⟩
          rw [forB_cons]
          exact ⟨_, by simp [l1_d_law_enough, hs, hv, ht, hm, optD]; rfl⟩
      · have hc : clearBy T s t x = false := by simp [clearBy, ht]
        have hd : dimBy T s t x = false := by simp [dimBy, ht]
        have g : Goes ((tgN 5 (lineL false x) [cs, some (tblD false ks T), some (.str s), some (.int t), some (.int n), none]).bind l1_d_law_enough) [cs, some (tblD false ks T), some (.str s), some (.int t), some (.int n), none] :=
          .inl (by simp [l1_d_law_enough, hs, hv, ht])
        rw [forB_goes g, List.any_cons, hc, Bool.false_or, List.filter_cons_of_neg (by simp [hd])]
        exact ⟨i0, i0'⟩
    · have hc : clearBy T s t x = false := by simp [clearBy, hv]
      have hd : dimBy T s t x = false := by simp [dimBy, hv]
      have g : Goes ((tgN 5 (lineL false x) [cs, some (tblD false ks T), some (.str s), some (.int t), some (.int n), none]).bind l1_d_law_enough) [cs, some (tblD false ks T), some (.str s), some (.int t), some (.int n), none] :=
        .inl (by simp [l1_d_law_enough, hv])
      rw [forB_goes g, List.any_cons, hc, Bool.false_or, List.filter_cons_of_neg (by simp [hd])]
      exact ⟨i0, i0'⟩
theorem enough_ap {N : Net} {b c d g : Bool} {T : Str → Int} {s : Str} {t : Int} (ok : N.Ok) (hs : s ∈ N.names) :
    ap f_d_law_enough [caseE b c g N, tblD d N.names T, .str s, .int t] = some (.bl (enough N T s t)) := by
  obtain ⟨h1, h2⟩ := enough_loop (cs := some (caseE false false false N)) (T := T) (s := s) (t := t) N.lines 0 fun l hl => (ok.lok l hl).s
  obtain ⟨i, hi⟩ := List.getElem?_of_mem hs
  have hx := index_str (b := false) ok.nd hi
  have hn := map_at (f := fun n => D.int (N.need n)) hi
  unfold enough
  cases q : N.lines.any (clearBy T s t) with
  | true =>
    obtain ⟨A, h1⟩ := h1 q
    have h1 : forB (tgN 5) l1_d_law_enough (N.lines.map (lineL false)) [some (caseE false false false N), some (tblD false N.names T), some (.str s), some (.int t), some (.int 0), none] = some (.rt (.bl true) A) := h1
    exact ap_run rfl (by simp [env0, b_d_law_enough, h1]) (by simp)
  | false =>
    have h2 := h2 q
    simp only [Nat.zero_add] at h2
    have h2 : forB (tgN 5) l1_d_law_enough (N.lines.map (lineL false)) [some (caseE false false false N), some (tblD false N.names T), some (.str s), some (.int t), some (.int 0), none] = _ := h2
    exact ap_run rfl (by simp [env0, b_d_law_enough, h2, hx, hn]) (by simp)
/-- what soonest promises -/
theorem soon_key {N : Net} {T : Str → Int} {s : Str} (hn : 1 ≤ N.need s) :
    N.soonest T s ≤ N.dawn ∧ ∀ t, t < N.dawn → (N.soonest T s ≤ t ↔ enough N T s t = true) := by
  obtain ⟨g1, g2, g3⟩ := minF_spec (fun l : Line => if l.most = none then none else some (T l.seen + l.least)) (N.to s) N.dawn
  rw [← momentC_min] at g1 g2 g3
  have hc : ∀ t, N.lines.any (clearBy T s t) = true ↔ ∃ l ∈ N.to s, l.most ≠ none ∧ T l.seen + l.least ≤ t := fun t => by
    rw [List.any_eq_true]
    constructor
    · rintro ⟨l, hl, h⟩
      simp only [clearBy, Bool.and_eq_true, decide_eq_true_eq] at h
      exact ⟨l, List.mem_filter.mpr ⟨hl, by simp [h.1]⟩, h.2⟩
    · rintro ⟨l, hl, h⟩
      exact ⟨l, (to_mem hl).1, by simp only [clearBy, Bool.and_eq_true, decide_eq_true_eq]; exact ⟨(to_mem hl).2, h⟩⟩
  have hd : ∀ t, ((dims (N.to s) T).filter fun y => decide (y ≤ t)).length = (N.lines.filter (dimBy T s t)).length := fun t => by
    unfold dims Net.to
    rw [List.filter_map, List.length_map, List.filter_filter, List.filter_filter]
    congr 2
    funext l
    simp only [dimBy, Function.comp]
    cases decide (l.viewer = s) <;> cases decide (l.most = none) <;> cases decide (T l.seen + l.least ≤ t) <;> rfl
  have hdl : ∀ t, (N.lines.filter (dimBy T s t)).length ≤ (dims (N.to s) T).length := fun t => by rw [← hd]; exact List.length_filter_le _ _
  have hC : ∀ t, t < N.dawn → (momentC (N.to s) T N.dawn ≤ t ↔ N.lines.any (clearBy T s t) = true) := fun t ht => by
    rw [hc]
    constructor
    · intro h
      rcases g3 with g3 | ⟨l, hl, hk⟩
      · omega
      · by_cases hm : l.most = none
        · rw [if_pos hm] at hk; cases hk
        · rw [if_neg hm] at hk
          exact ⟨l, hl, hm, by have := Option.some.inj hk; omega⟩
    · rintro ⟨l, hl, hm, h⟩
      have := g2 l hl _ (if_neg hm)
      omega
  obtain ⟨m, hm⟩ : ∃ m, momentC (N.to s) T N.dawn = m := ⟨_, rfl⟩
  rw [hm] at hC g1
  obtain ⟨k, hk⟩ : ∃ k : Nat, N.need s = k + 1 := ⟨(N.need s - 1).toNat, by omega⟩
  have key : ∀ t, t < N.dawn → (N.soonest T s ≤ t ↔ enough N T s t = true) := fun t ht => by
    unfold enough
    rw [Bool.or_eq_true, ← hC t ht, decide_eq_true_eq]
    unfold Net.soonest moment
    rw [hm]
    by_cases h : N.need s ≤ (dims (N.to s) T).length
    · rw [if_pos h]
      have hsc := sort_count (xs := dims (N.to s) T) (n := (N.need s).toNat - 1) (t := t) (by omega)
      rw [hd] at hsc
      have e : (N.need s).toNat - 1 = k := by omega
      rw [e] at hsc ⊢
      generalize (sortI (dims (N.to s) T)).getD k 0 = q at *
      generalize (N.lines.filter (dimBy T s t)).length = r at *
      omega
    · rw [if_neg h]
      have := hdl t
      omega
  have hle : N.soonest T s ≤ N.dawn := by
    unfold Net.soonest moment
    rw [hm]
    split
    · exact Int.le_trans (Int.min_le_left _ _) g1
    · exact g1
  exact ⟨hle, key⟩
/-! ### the usual case drawn -/
structure CInv (names : List Str) (k : Nat) (ls : List Line) : Prop where
  len : ls.length ≤ k
  ok : ∀ l ∈ ls, l.Ok names
  nd : (ls.map Line.pair).Nodup
  ix : ∀ l ∈ ls, ∃ j < k, names[j / names.length]? = some l.seen ∧ names[j % names.length]? = some l.viewer
theorem CInv.none {names : List Str} {k : Nat} {ls : List Line} (i : CInv names k ls) : CInv names (k + 1) ls :=
  ⟨by have := i.len; omega, i.ok, i.nd, fun l hl => by obtain ⟨j, h, q⟩ := i.ix l hl; exact ⟨j, by omega, q⟩⟩
theorem CInv.one {names : List Str} {k : Nat} {ls : List Line} (i : CInv names k ls) (nd : names.Nodup) {l : Line} (h : l.Ok names) (h1 : names[k / names.length]? = some l.seen) (h2 : names[k % names.length]? = some l.viewer) : CInv names (k + 1) (ls ++ [l]) := by
  refine ⟨by have := i.len; simp; omega, fun m hm => ?_, pairs_app i.nd fun m hm e => ?_, fun m hm => ?_⟩
  · rcases List.mem_append.mp hm with hm | hm
    · exact i.ok m hm
    · have : m = l := by simpa using hm
      subst this; exact h
  · obtain ⟨j, hj, q1, q2⟩ := i.ix m hm
    obtain ⟨e1, e2⟩ := pair_inj.mp e
    rw [e1] at q1
    rw [e2] at q2
    have a1 := L2.nodup_ix nd q1 h1
    have a2 := L2.nodup_ix nd q2 h2
    have b1 := Nat.div_add_mod j names.length
    have b2 := Nat.div_add_mod k names.length
    rw [a1, a2] at b1
    omega
  · rcases List.mem_append.mp hm with hm | hm
    · obtain ⟨j, hj, q⟩ := i.ix m hm; exact ⟨j, by omega, q⟩
    · have : m = l := by simpa using hm
      subst this; exact ⟨k, by omega, h1, h2⟩
theorem case_ap (cell : Int) (mk md : Nat) (hmk : mk ≤ 6) (hmd : 1 ≤ md) (hmd2 : md ≤ 100) : ∃ N : Net, N.Ok ∧ N.names.length ≤ mk ∧ N.lines.length ≤ 36 ∧ N.dawn ≤ md ∧ (∀ s ∈ N.names, N.need s ≤ 4) ∧
    ap f_d_law_case [.int cell, .int mk, .int md] = some (caseD true false N) := by
  obtain ⟨row, rl, rb, rg⟩ := row_ex cell 60
  obtain ⟨x0, e0, _⟩ := row_at (row := row) (i := 0) (by omega) (by omega)
  obtain ⟨x1, e1, _⟩ := row_at (row := row) (i := 1) (by omega) (by omega)
  obtain ⟨x50, e50, _⟩ := row_at (row := row) (i := 50) (by omega) (by omega)
  obtain ⟨part, pl, pb, pg⟩ := row_part (b := true) rb 2 8 (by omega) (by omega) (by omega)
  have hmk1 : 0 < (mk : Int) + 1 := by omega
  obtain ⟨n, hn⟩ : ∃ n : Nat, x0 % ((mk : Int) + 1) = n := ⟨(x0 % ((mk : Int) + 1)).toNat, by have := Int.emod_nonneg x0 (b := (mk : Int) + 1) (by omega); omega⟩
  have hnm : n ≤ mk := by have := Int.emod_lt_of_pos x0 hmk1; omega
  obtain ⟨names, nl, nd, nok, ng⟩ := names_ex part n (by omega) (by omega) (by omega) true
  have nl : names.length = n := by omega
  have hat : ∀ k < n, ∃ x, atI (row.map D.int) (8 + (k : Int)) = some (.int x) := fun k hk => by
    obtain ⟨x, hx, _⟩ := row_at (row := row) (i := 8 + (k : Int)) (by omega) (by omega)
    exact ⟨x, hx⟩
  obtain ⟨bs, hbl, _, hb⟩ := lc_ex (c := c1_d_law_case [none, none, some (.int md), some (.lst true (row.map D.int)), some (.int n), some (.lst true (names.map D.str)), none, none, none, none, none, none, none, none]) (fun k : Nat => D.int k) D.bl (fun _ => True) (List.range n) (fun k hk => by
    obtain ⟨x, hx⟩ := hat k (List.mem_range.mp hk)
    exact ⟨_, by simp [c1_d_law_case, hx]; rfl, trivial⟩)
  obtain ⟨ds, hdl, hdp, hd⟩ := lc_ex (c := c2_d_law_case [none, none, some (.int md), some (.lst true (row.map D.int)), some (.int n), some (.lst true (names.map D.str)), some (.lst true (bs.map D.bl)), none, none, none, none, none, none, none]) (fun k : Nat => D.int k) D.int (fun i => 1 ≤ i ∧ i ≤ 4) (List.range n) (fun k hk => by
    obtain ⟨x, hx⟩ := hat k (List.mem_range.mp hk)
    exact ⟨1 + x / 3 % 4, by simp [c2_d_law_case, hx], by omega, by omega⟩)
  obtain ⟨lk, hlk, _⟩ := fun_of false (ys := bs) nd (by simpa [nl] using hbl)
  obtain ⟨nf, hnf, hnf2⟩ := fun_of (0 : Int) (ys := ds) nd (by simpa [nl] using hdl)
  have hmd0 : 0 < (md : Int) := by omega
  obtain ⟨dawn, hdw⟩ : ∃ d, 1 + x1 % (md : Int) = d := ⟨_, rfl⟩
  have hdb : 1 ≤ dawn ∧ dawn ≤ md := by
    have := Int.emod_nonneg x1 (b := (md : Int)) (by omega)
    have := Int.emod_lt_of_pos x1 hmd0
    omega
  have hsq : n * n ≤ 36 := Nat.le_trans (Nat.mul_le_mul (show n ≤ 6 by omega) (show n ≤ 6 by omega)) (Nat.le_refl _)
  -- the lines
  obtain ⟨ls, h1, hi⟩ := for_inv (g := tgN 9) (mb := l3_d_law_case) (fun k : Nat => D.int k)
    (fun ls : List Line => [none, none, some (.int md), some (.lst true (row.map D.int)), some (.int n), some (.lst true (names.map D.str)), some (.lst true (bs.map D.bl)), some (.lst true (ds.map D.int)), some (.lst true (ls.map (lineL true))), none, none, none, none, none])
    (fun i ls => CInv names i ls) (List.range (n * n)) [] ⟨by simp, by simp, by simp, by simp⟩ (by
      rintro i k ls hk inv
      obtain ⟨rfl, hi⟩ := range_at hk
      have hn0 : 0 < n := by
        rcases Nat.eq_zero_or_pos n with h | h
        · rw [h] at hi; simp at hi
        · exact h
      have hn0' : 0 < (n : Int) := by omega
      have hnlt : (n : Int) < 1073741824 := by omega
      obtain ⟨s, hs, ms⟩ := get_some (xs := names) (i := k / n) (by rw [nl]; exact Nat.div_lt_of_lt_mul hi)
      obtain ⟨v, hv, mv⟩ := get_some (xs := names) (i := k % n) (by rw [nl]; exact Nat.mod_lt _ hn0)
      have as_ := map_at (f := D.str) hs
      have av_ := map_at (f := D.str) hv
      have hf : fdivD (.int k) (.int n) = some (.int ((k / n : Nat) : Int)) := by rw [fdivD_int hn0' hnlt, Int.natCast_ediv]
      have hmo : modD (.int k) (.int n) = some (.int ((k % n : Nat) : Int)) := by rw [modD_int hn0', Int.natCast_emod]
      generalize hi1 : k / n = i1 at *
      generalize hi2 : k % n = i2 at *
      have hlen : ls.length < 1000000 := by have := inv.len; omega
      obtain ⟨x, hx, _⟩ := row_at (row := row) (i := 14 + (k : Int)) (by omega) (by omega)
      by_cases h1 : i1 = i2
      · exact ⟨ls, .inl (by simp [l3_d_law_case, hx, hf, hmo, h1]), inv.none⟩
      by_cases h2 : 0 < x % 4
      · have hne : s ≠ v := fun e => by
          subst e
          exact h1 (L2.nodup_ix nd hs hv)
        obtain ⟨a, ha⟩ : ∃ a, (if x / 140 = 3 then 1 + x / 4 % 5 + 90 else 1 + x / 4 % 5) = a := ⟨_, rfl⟩
        have ha1 : 1 ≤ a ∧ a ≤ 95 := by split at ha <;> omega
        obtain ⟨m, hm⟩ : ∃ m : Option Int, (if 1 < x % 4 then some (a + x / 20 % 7) else none) = m := ⟨_, rfl⟩
        refine ⟨ls ++ [⟨s, v, a, m⟩], .inl ?_, inv.one nd ⟨ms, mv, hne, ha1.1, by show a ≤ 999; omega, fun i hi => ?_⟩ (by rw [nl, hi1]; exact hs) (by rw [nl, hi2]; exact hv)⟩
        · subst ha hm
          by_cases h3 : x / 140 = 3 <;> by_cases h4 : 1 < x % 4 <;> simp [l3_d_law_case, hx, hf, hmo, h1, h2, h3, h4, as_, av_, hlen, lineL, optD] <;> omega
        · subst hm
          by_cases h4 : 1 < x % 4
          · rw [if_pos h4] at hi; cases hi; show a ≤ _ ∧ _; omega
          · rw [if_neg h4] at hi; cases hi
      · exact ⟨ls, .inl (by simp [l3_d_law_case, hx, hf, hmo, h1, h2]), inv.none⟩)
  simp only [List.map_nil, List.length_range] at h1 hi
  obtain ⟨ms, hms⟩ : ∃ ms : List Line, (if x50 % 2 = 1 then ls.reverse else ls) = ms := ⟨_, rfl⟩
  have hperm : ms.Perm ls := by
    subst hms
    split
    · exact List.reverse_perm _
    · exact .refl _
  refine ⟨⟨dawn, names, lk, nf, ms⟩, ⟨hdb.1, by show dawn ≤ 100; omega, nd, by show names.length ≤ 8; omega, nok, fun s hs => by have := hdp _ (hnf2 s hs); show 1 ≤ nf s ∧ nf s ≤ 8; omega, fun l hl => hi.ok l (hperm.mem_iff.mp hl), ((hperm.map Line.pair).nodup_iff).mpr hi.nd⟩, by show names.length ≤ mk; omega, by have := hi.len; have := hperm.length_eq; show ms.length ≤ 36; omega, by show dawn ≤ md; omega, fun s hs => (hdp _ (hnf2 s hs)).2, ap_run rfl ?_ (by simp [caseE])⟩
  have hr := rangeD1_nat (n := n) (by omega)
  have hr2 := rangeD1_nat (n := n * n) (by omega)
  have hnl : n ≤ 100000 := by omega
  have hsm : VI.small64 (n : Int) = true := small64_of (by omega) (by omega)
  have hsm1 : VI.small64 (mk : Int) = true := small64_of (by omega) (by omega)
  have m1 : names.map (fun n => D.bl (lk n)) = bs.map D.bl := by rw [← hlk, List.map_map]; rfl
  have m2 : names.map (fun n => D.int (nf n)) = ds.map D.int := by rw [← hnf, List.map_map]; rfl
  rw [Int.natCast_mul] at hr2
  have hd1 : modD (.int x1) (.int (md : Int)) = some (.int (x1 % (md : Int))) := modD_int hmd0
  by_cases h50 : x50 % 2 = 1 <;> subst hms <;>
    simp [env0, b_d_law_case, rg, e0, e1, e50, hn, pg, ng, hr, hr2, hb, hd, hnl, hdw, hd1, hmk1, hsm, h1, -sliceD_lst, caseE, m1, m2, h50]
theorem due_key {N : Net} {T : Str → Int} {s : Str} {t : Int} (ht : t ≤ N.dawn) : N.due T s < t ↔ ∃ l ∈ N.lines, l.viewer = s ∧ ∃ k, l.most = some k ∧ T l.seen + k < t := by
  obtain ⟨h1, h2, h3⟩ := minF_spec (fun l : Line => l.most.map (T l.seen + ·)) (N.to s) N.dawn
  generalize hq : List.foldl _ N.dawn (N.to s) = q at h1 h2 h3
  have e : N.due T s = q := by
    rw [← hq]
    unfold Net.due dueF
    congr 1
    funext m l
    cases l.most <;> rfl
  rw [← e] at h1 h2 h3
  constructor
  · intro h
    rcases h3 with h3 | ⟨l, hl, hk⟩
    · omega
    · cases z : l.most with
      | none => simp [z] at hk
      | some k =>
        simp [z] at hk
        exact ⟨l, (to_mem hl).1, (to_mem hl).2, k, z, by omega⟩
  · rintro ⟨l, hl, hv, k, hk, h⟩
    have := h2 l (List.mem_filter.mpr ⟨hl, by simp [hv]⟩) (T l.seen + k) (by rw [hk]; rfl)
    omega
/-- how s fails in the table -/
def Net.fault (N : Net) (T : Str → Int) (s : Str) : Option Str := if N.look s = false ∧ T s < N.soonest T s then some "err" else if N.due T s < T s then some "sleep" else none
def strO : Option Str → D
  | some x => .str x
  | none => .non
theorem fault_ap {N : Net} {b c : Bool} {ks : List Str} {T : Str → Int} {s : Str} (h : s ∈ N.names) (hs : s ∈ ks) (hk : ∀ l ∈ N.lines, l.seen ∈ ks) (hn : 1 ≤ N.need s) (hl : N.lines.length < 1000000) :
    ap f_d_fault_of [netD b N, tblD c ks T, .str s] = some (strO (N.fault T s)) := by
  have h1 := is_lookout_ap (b := false) h
  have h2 := soonest_ap (b := false) (c := false) (T := T) h hk hn hl
  have h3 := due_ap (b := false) (c := false) (T := T) h hk
  have h4 := tbl_sub (b := false) (T := T) hs
  refine ap_run rfl ?_ (.inr (by unfold strO; split <;> rfl))
  unfold Net.fault
  cases hL : N.look s <;> by_cases q1 : T s < N.soonest T s <;> by_cases q2 : N.due T s < T s <;> simp [env0, b_d_fault_of, h1, h2, h3, h4, hL, q1, q2, strO]
def sleeps (N : Net) (T : Str → Int) (s : Str) (t : Int) (l : Line) : Bool := decide (l.viewer = s) && match l.most with
  | some k => decide (T l.seen + k < t)
  | none => false
theorem kind_ap {N : Net} {b c d g : Bool} {T : Str → Int} {s : Str} (ok : N.Ok) (h : s ∈ N.names) (hm : N.lines.length < 1000) (hT : T s ≤ N.dawn) :
    ap f_d_law_kind_v2 [caseE b c g N, tblD d N.names T, .str s] = some (.str ((N.fault T s).getD "")) := by
  have h4 := tbl_sub (b := false) (T := T) h
  have he := enough_ap (b := false) (c := false) (d := false) (g := false) (T := T) (t := T s) ok h
  obtain ⟨i, hi⟩ := List.getElem?_of_mem h
  have hx := index_str (b := false) ok.nd hi
  have hn := map_at (f := fun n => D.bl (N.look n)) hi
  obtain ⟨k1, k2⟩ := soon_key (T := T) (s := s) (ok.n1 s h).1
  have loop := for_find (g := tgN 4) (mb := l1_d_law_kind_v2) (lineL false) [some (caseE false false false N), some (tblD false N.names T), some (.str s), some (.int (T s)), none] (sleeps N T s (T s)) (fun l => some (.rt (.str "sleep") [some (caseE false false false N), some (tblD false N.names T), some (.str s), some (.int (T s)), some (lineL false l)])) N.lines (fun l hl hp => by
      have hsub := tbl_sub (b := false) (T := T) (ok.lok l hl).s
      by_cases hv : l.viewer = s
      · cases hm : l.most with
        | none => exact .inl (by simp [l1_d_law_kind_v2, hv, hm, optD])
        | some k =>
          have : ¬ T l.seen + k < T s := by simpa [sleeps, hv, hm] using hp
          exact .inl (by simp [l1_d_law_kind_v2, hv, hm, optD, hsub, this])
      · exact .inl (by simp [l1_d_law_kind_v2, hv])) (fun l hl hp => by
      have hsub := tbl_sub (b := false) (T := T) (ok.lok l hl).s
      refine ⟨?_, _, _, rfl⟩
      simp only [sleeps, Bool.and_eq_true, decide_eq_true_eq] at hp
      obtain ⟨hv, hp⟩ := hp
      cases hm : l.most with
      | none => simp [hm] at hp
      | some k =>
        rw [hm] at hp
        have hp : T l.seen + k < T s := by simpa using hp
        simp [l1_d_law_kind_v2, hv, hm, optD, hsub, hp])
  have hdue : N.due T s < T s ↔ (N.lines.find? (sleeps N T s (T s))).isSome = true := by
    rw [due_key hT, List.find?_isSome]
    constructor
    · rintro ⟨l, hl, hv, k, hk, hp⟩
      exact ⟨l, hl, by simp [sleeps, hv, hk, hp]⟩
    · rintro ⟨l, hl, hp⟩
      simp only [sleeps, Bool.and_eq_true, decide_eq_true_eq] at hp
      obtain ⟨hv, hp⟩ := hp
      cases hm : l.most with
      | none => simp [hm] at hp
      | some k => rw [hm] at hp; exact ⟨l, hl, hv, k, hm, by simpa using hp⟩
  have herr : (N.look s = false ∧ T s < N.soonest T s) ↔ (T s < N.dawn ∧ N.look s = false ∧ enough N T s (T s) = false) := by
    by_cases hd : T s < N.dawn
    · have k := k2 _ hd
      constructor
      · rintro ⟨a, b⟩
        refine ⟨hd, a, ?_⟩
        cases q : enough N T s (T s) with
        | false => rfl
        | true => exact absurd (k.mpr q) (by omega)
      · rintro ⟨_, a, b⟩
        refine ⟨a, ?_⟩
        have : ¬ N.soonest T s ≤ T s := fun z => by rw [k.mp z] at b; cases b
        omega
    · have : ¬ T s < N.soonest T s := by omega
      simp [hd, this]
  refine ap_run rfl ?_ (.inr rfl)
  unfold Net.fault
  by_cases q1 : N.look s = false ∧ T s < N.soonest T s
  · obtain ⟨a1, a2, a3⟩ := herr.mp q1
    rw [if_pos q1]
    simp [env0, b_d_law_kind_v2, h4, he, hx, hn, a1, a2, a3]
  · rw [if_neg q1]
    have q1' : ¬ (T s < N.dawn ∧ N.look s = false ∧ enough N T s (T s) = false) := fun z => q1 (herr.mpr z)
    have fin : outV (forB (tgN 4) l1_d_law_kind_v2 (N.lines.map (lineL false)) [some (caseE false false false N), some (tblD false N.names T), some (.str s), some (.int (T s)), none]) = outV (forB (tgN 4) l1_d_law_kind_v2 (N.lines.map (lineL false)) [some (caseE false false false N), some (tblD false N.names T), some (.str s), some (.int (T s)), none]) := rfl
    cases q2 : N.lines.find? (sleeps N T s (T s)) with
    | none =>
      rw [q2] at loop
      have q3 : ¬ N.due T s < T s := by rw [hdue, q2]; simp
      rw [if_neg q3]
      by_cases a1 : T s < N.dawn <;> cases a2 : N.look s <;> cases a3 : enough N T s (T s) <;> first | (exfalso; exact q1' ⟨a1, a2, a3⟩; done) | simp [env0, b_d_law_kind_v2, h4, he, hx, hn, a1, a2, a3, loop]
    | some l =>
      rw [q2] at loop
      have q3 : N.due T s < T s := by rw [hdue, q2]; simp
      rw [if_pos q3]
      by_cases a1 : T s < N.dawn <;> cases a2 : N.look s <;> cases a3 : enough N T s (T s) <;> first | (exfalso; exact q1' ⟨a1, a2, a3⟩; done) | simp [env0, b_d_law_kind_v2, h4, he, hx, hn, a1, a2, a3, loop]
theorem lstF_net {N : Net} {b : Bool} (h : N.names.length ≤ 8) : lstF 0 "names" [netD b N] = some (.lst true (N.names.map D.str)) := by
  have e := fld_names (b := b) (N := N)
  have hl : N.names.length ≤ 100000 := by omega
  have : fldL 0 "names" (netD b N) = some (N.names.map D.str) := by
    unfold netD net6 at e ⊢
    unfold fldD at e
    simp only [fldL, if_true] at e ⊢
    rw [e]; rfl
  simp only [lstF, this, Option.bind_some]
  simp [hl]
end VI
set_option Elab.async false
set_option linter.all false
set_option maxRecDepth 100000
set_option autoImplicit false
namespace VI
open PySem L2
variable {b c : Bool} {N : Net} {s : Str}
theorem contains_ap : ap f_m_Network_ddcontains [netD b N, .str s] = some (.bl (decide (s ∈ N.names))) :=
  ap_run rfl (by by_cases h : s ∈ N.names <;> simp [env0, b_m_Network_ddcontains, h]) (by simp)
@[simp] theorem inOwn_net {g : List D → Option (D × Ev)} {neg : Bool} {x : D} : inOwnD 0 g neg x (netD b N) = (ap g [netD b N, x]).bind (blD neg) := (rfl)
@[simp] theorem blD_bl {neg a : Bool} : blD neg (.bl a) = some (.bl (if neg then !a else a)) := (rfl)
@[simp] theorem mOwnIt_run {k : Nat} {fld : Str} {m : Ev → Option D} {A : Ev} : mOwnIt k fld m A = (m A).bind fun d => ownItems k fld d.frz := (rfl)
@[simp] theorem ownItems_net : ownItems 0 "names" (netD false N) = some (N.names.map D.str) := by
  have e := fld_names (b := false) (N := N)
  unfold netD net6 at e ⊢
  unfold fldD at e
  simp only [ownItems, if_true] at e ⊢
  rw [e]; rfl
/-! ### faults -/
def fltD (p : Str × Str) : D := .tup [.str p.1, .str p.2]
@[simp] theorem fltD_frz {p : Str × Str} : (fltD p).frz = fltD p := rfl
@[simp] theorem fltD_plain {p : Str × Str} : (fltD p).plain = true := rfl
@[simp] theorem fltD_clean {p : Str × Str} : (fltD p).clean = true := rfl
def kindOf (fs : List (Str × Str)) (s : Str) : Str := ((fs.find? fun p => decide (p.1 = s)).map (·.2)).getD ""
theorem kind_in {x : Str} (h : x = "err" ∨ x = "sleep") : ninD (.str x) (.ktup [.str "err", .str "sleep"]) = some (.bl false) := by
  rcases h with rfl | rfl <;> rfl
theorem check_faults_ap {fs : List (Str × Str)} (h1 : ∀ p ∈ fs, p.1 ∈ N.names) (h2 : ∀ p ∈ fs, p.2 = "err" ∨ p.2 = "sleep") (nd : (fs.map (·.1)).Nodup) (hl : fs.length < 1000) (hn : N.names.length ≤ 8) :
    ap f_d_check_faults [netD b N, .lst c (fs.map fltD)] = some (.lst true (((N.names.filter fun s => decide (s ∈ fs.map (·.1))).map fun s => (s, kindOf fs s)).map fltD)) := by
  have loop := for_det (g := tgN 3) (mb := l1_d_check_faults) fltD (fun i => [some (netD false N), some (.lst false (fs.map fltD)), some (.dct true ((fs.take i).map fun p => kS p.1) ((fs.take i).map fun p => .str p.2)), none, none, none]) fs (fun i p hp => by
    have hm := List.mem_of_getElem? hp
    have htake : fs.take (i + 1) = fs.take i ++ [p] := by rw [List.take_succ, hp]; rfl
    have hnot : p.1 ∉ (fs.take i).map (·.1) := by
      have hs : ((fs.take (i + 1)).map (·.1)).Nodup := by rw [List.map_take]; exact nd.sublist (List.take_sublist _ _)
      rw [htake, List.map_append, List.nodup_append] at hs
      exact fun z => hs.2.2 _ z p.1 (by simp) rfl
    have hk : kS p.1 ∉ (fs.take i).map fun p => kS p.1 := fun z => by
      obtain ⟨q, hq, e⟩ := List.mem_map.mp z
      exact hnot (List.mem_map.mpr ⟨q, hq, kS_inj.mp e⟩)
    have hlook : look ((fs.take i).map fun p => kS p.1) ((fs.take i).map fun p => D.str p.2) (kS p.1) = none := by
      rw [look_map, List.find?_eq_none.mpr (fun x hx => by simp only [decide_eq_true_eq]; exact fun e => hk (List.mem_map.mpr ⟨x, hx, e⟩))]; rfl
    have hin := contains_ap (b := false) (N := N) (s := p.1)
    have hmn := h1 p hm
    have hkd := kind_in (h2 p hm)
    have hlt : (fs.take i).length < 1000000 := by simp; omega
    have hput : putKey (.dct true ((fs.take i).map fun p => kS p.1) ((fs.take i).map fun p => D.str p.2)) (.str p.1) (.str p.2) = some (.dct true ((fs.take (i + 1)).map fun p => kS p.1) ((fs.take (i + 1)).map fun p => D.str p.2)) := by
      have e0 : putO ((fs.take i).map fun p => kS p.1) ((fs.take i).map fun p => D.str p.2) (kS p.1) (.str p.2) = some _ := putO_new hk
      rw [htake, List.map_append, List.map_append]
      show (if ((fs.take i).map fun p => kS p.1).length < 1000000 then (putO ((fs.take i).map fun p => kS p.1) ((fs.take i).map fun p => D.str p.2) (kS p.1) (.str p.2)).map fun r => D.dct true r.1 r.2 else none) = _
      rw [if_pos (by rw [List.length_map]; exact hlt), e0]
      rfl
    refine .inl ?_
    simp [l1_d_check_faults, fltD, sAsgG, tgTup, tgCons, tgNil, hin, hmn, hkd, hlook, hput, -List.map_take])
  have q := lc_filter (c := c2_d_check_faults [some (netD false N), none, some (.dct true (fs.map fun p => kS p.1) (fs.map fun p => .str p.2)), none, none, none]) D.str (fun s => decide (s ∈ fs.map (·.1))) (fun s => fltD (s, kindOf fs s)) N.names (fun s hs => by
    have hlook : look (fs.map fun p => kS p.1) (fs.map fun p => D.str p.2) (kS s) = (fs.find? fun p => decide (p.1 = s)).map fun p => D.str p.2 := by
      rw [look_map]; congr 2; funext p; rw [decide_eq_decide]; exact kS_inj
    by_cases h : s ∈ fs.map (·.1)
    · obtain ⟨p, hp, e⟩ := List.mem_map.mp h
      cases z : fs.find? fun p => decide (p.1 = s) with
      | none => exact absurd e (by simpa using List.find?_eq_none.mp z p hp)
      | some r =>
        have hk : kindOf fs s = r.2 := by unfold kindOf; rw [z]; rfl
        rw [if_pos (by simpa using h), hk]
        simp [c2_d_check_faults, hlook, z, fltD]
    · have z : fs.find? (fun p => decide (p.1 = s)) = none := List.find?_eq_none.mpr fun p hp => by simp only [decide_eq_true_eq]; exact fun e => h (List.mem_map.mpr ⟨p, hp, e⟩)
      rw [if_neg (by simpa using h)]
      simp [c2_d_check_faults, hlook, z])
  simp only [List.take_length, List.take_zero, List.map_nil] at loop
  have hnl : N.names.length ≤ 100000 := by omega
  exact ap_run rfl (by simp [env0, b_d_check_faults, loop, q, hnl]) (by simp)
theorem faults_of_perm {fs : List (Str × Str)} {has : Str → Bool} {kd : Str → Str} (h : fs.Perm ((N.names.filter has).map fun s => (s, kd s))) :
    ((N.names.filter fun s => decide (s ∈ fs.map (·.1))).map fun s => (s, kindOf fs s)) = (N.names.filter has).map fun s => (s, kd s) := by
  have hm : ∀ s ∈ N.names, decide (s ∈ fs.map (·.1)) = has s := fun s hs => by
    rw [Bool.eq_iff_iff, decide_eq_true_eq, List.mem_map]
    constructor
    · rintro ⟨p, hp, rfl⟩
      obtain ⟨t, ht, rfl⟩ := List.mem_map.mp (h.mem_iff.mp hp)
      exact (List.mem_filter.mp ht).2
    · intro hh
      exact ⟨(s, kd s), h.mem_iff.mpr (List.mem_map.mpr ⟨s, List.mem_filter.mpr ⟨hs, hh⟩, rfl⟩), rfl⟩
  rw [List.filter_congr hm]
  refine List.map_congr_left fun s hs => ?_
  obtain ⟨hs1, hs2⟩ := List.mem_filter.mp hs
  have : (s, kd s) ∈ fs := h.mem_iff.mpr (List.mem_map.mpr ⟨s, hs, rfl⟩)
  cases z : fs.find? fun p => decide (p.1 = s) with
  | none => exact absurd (show s = s from rfl) (by simpa using List.find?_eq_none.mp z _ this)
  | some r =>
    have e1 : r.1 = s := by simpa using List.find?_some z
    obtain ⟨t, ht, e⟩ := List.mem_map.mp (h.mem_iff.mp (List.mem_of_find?_eq_some z))
    have : kindOf fs s = r.2 := by unfold kindOf; rw [z]; rfl
    rw [this, ← e]
    have : t = s := by rw [← e] at e1; exact e1
    rw [this]
end VI
set_option Elab.async false
set_option linter.all false
set_option maxRecDepth 100000
set_option autoImplicit false
/-! VLoop: loops by the names that they change. -/
namespace VI
open PySem L2
def setS (A : Ev) : List (Nat × Option D) → Ev
  | [] => A
  | (i, d) :: r => setS (A.set i d) r
@[simp] theorem setS_nil {A : Ev} : setS A [] = A := (rfl)
@[simp] theorem setS_cons {A : Ev} {i : Nat} {d : Option D} {r : List (Nat × Option D)} : setS A ((i, d) :: r) = setS (A.set i d) r := (rfl)
section
variable {α β : Type} {g : D → Ev → Option Ev} {mb : SM} {enc : α → D} {xs : List α} {A : Ev} {o : Option SOut}
theorem for_detS (hF : forB g mb (xs.map enc) A = o) (sl : Nat → List (Nat × Option D)) (h0 : setS A (sl 0) = A) (h : ∀ i x, xs[i]? = some x → Goes ((g (enc x) (setS A (sl i))).bind mb) (setS A (sl (i + 1)))) : o = some (.nx (setS A (sl xs.length))) := by
  rw [← hF]
  conv => lhs; rw [← h0]
  exact for_det enc (fun i => setS A (sl i)) xs h
theorem for_foldS (hF : forB g mb (xs.map enc) A = o) (sl : β → List (Nat × Option D)) (step : β → α → β) (s : β) (h0 : setS A (sl s) = A) (h : ∀ x ∈ xs, ∀ s, Goes ((g (enc x) (setS A (sl s))).bind mb) (setS A (sl (step s x)))) : o = some (.nx (setS A (sl (xs.foldl step s)))) := by
  rw [← hF]
  conv => lhs; rw [← h0]
  exact for_fold enc (fun s => setS A (sl s)) step xs s h
theorem for_invS (hF : forB g mb (xs.map enc) A = o) (sl : β → List (Nat × Option D)) (I : Nat → β → Prop) (s : β) (h0 : setS A (sl s) = A) (hI : I 0 s) (h : ∀ i x s, xs[i]? = some x → I i s → ∃ s', Goes ((g (enc x) (setS A (sl s))).bind mb) (setS A (sl s')) ∧ I (i + 1) s') :
    ∃ s', o = some (.nx (setS A (sl s'))) ∧ I xs.length s' := by
  obtain ⟨s', h1, h2⟩ := for_inv enc (fun s => setS A (sl s)) I xs s hI h
  refine ⟨s', ?_, h2⟩
  rw [← hF, ← h1]
  simp only [h0]
/-- nothing is changed: each turn passes -/
theorem for_allS (hF : forB g mb (xs.map enc) A = o) (h : ∀ x ∈ xs, Goes ((g (enc x) A).bind mb) A) : o = some (.nx A) :=
  for_foldS (β := Unit) hF (fun _ => []) (fun _ _ => ()) () rfl fun x hx _ => h x hx
/-- .. or it is left by a return -/
theorem for_findS (hF : forB g mb (xs.map enc) A = o) (p : α → Bool) (r : α → Option SOut) (h1 : ∀ x ∈ xs, p x = false → Goes ((g (enc x) A).bind mb) A)
    (h2 : ∀ x ∈ xs, p x = true → (g (enc x) A).bind mb = r x ∧ ∃ d A, r x = some (.rt d A)) : o = match xs.find? p with | some x => r x | none => some (.nx A) := by
  rw [← hF]
  exact for_find enc A p r xs h1 h2
end
/-- a def's run, its answer told by what it is -/
theorem ap_ex {n N : Nat} {m : SM} {ds : List D} {Q : D → Prop} (h : ds.length = n) (hr : ∃ r, outV (m (env0 n N (D.frzL ds))) = some r ∧ (D.plainL ds = true ∨ r.clean = true) ∧ Q r) : ∃ r, ap (runF n N m) ds = some r ∧ Q r := by
  obtain ⟨r, h1, h2, h3⟩ := hr
  exact ⟨r, ap_run h h1 h2, h3⟩
end VI
set_option Elab.async false
set_option linter.all false
set_option maxRecDepth 100000
set_option autoImplicit false
namespace VI
open PySem L2
/-! ### lateness tables -/
def lateD (b : Bool) (ls : List Line) (F : Line → Int) : D := .dtt b (ls.map Line.pair) (ls.map fun l => .int (F l))
def lateOf (T : Str → Int) (l : Line) : Int := match l.most with | none => max l.least (T l.viewer - T l.seen) | some m => min (max l.least (T l.viewer - T l.seen)) m
section
variable {b c : Bool} {ls : List Line} {F : Line → Int} {N : Net} {T : Str → Int} {ks : List Str}
@[simp] theorem late_frz : (lateD b ls F).frz = lateD false ls F := by simp [lateD]
@[simp] theorem late_plain : (lateD b ls F).plain = !b := (rfl)
@[simp] theorem late_clean : (lateD b ls F).clean = b := by simp [lateD]
theorem late_sub (nd : (ls.map Line.pair).Nodup) {l : Line} (h : l ∈ ls) : subscr (lateD b ls F) (.tup [.str l.seen, .str l.viewer]) = some (.int (F l)) := by
  show (keysD [.str l.seen, .str l.viewer]).bind (look (ls.map Line.pair) (ls.map fun l => .int (F l))) = _
  rw [keysD_two, Option.bind_some, look_map, find_pair]
  have := span_mem (N := ⟨0, [], fun _ => false, fun _ => 0, ls⟩) nd h
  unfold Net.span at this
  rw [this]; rfl
theorem lateness_of_ap (ok : N.Ok) (hm : N.lines.length < 1000) (hk : ∀ s ∈ N.names, s ∈ ks) : ap f_d_lateness_of [netD b N, tblD c ks T] = some (lateD true N.lines (lateOf T)) := by
  refine ap_run rfl ?_ (by simp)
  simp [env0, b_d_lateness_of, lines_ap ok.prs hm]
  generalize hF : forB _ _ _ _ = o
  have := for_detS hF (fun i => [(2, some (lateD true (N.lines.take i) (lateOf T)))]) rfl (fun i l hl => by
    have ml := List.mem_of_getElem? hl
    have t1 := tbl_sub (b := false) (T := T) (hk _ (ok.lok l ml).s)
    have t2 := tbl_sub (b := false) (T := T) (hk _ (ok.lok l ml).v)
    have htake : N.lines.take (i + 1) = N.lines.take i ++ [l] := by rw [List.take_succ, hl]; rfl
    have hn : [kS l.seen, kS l.viewer] ∉ (N.lines.take i).map Line.pair := by
      have := ok.prs.sublist ((List.take_sublist (i + 1) _).map Line.pair)
      rw [htake, List.map_append, List.nodup_append] at this
      exact fun z => this.2.2 _ z _ (by simp [Line.pair]) rfl
    have hp := putO_new (xs := (N.lines.take i).map fun l => D.int (lateOf T l)) (d := .int (lateOf T l)) hn
    have hlen : min i N.lines.length < 1000000 := by omega
    refine .inl ?_
    rw [htake]
    cases hmo : l.most <;> simp [l1_d_lateness_of, Line.tup, tgTup, tgCons, tgNil, hmo, t1, t2, putKey, lateD, hlen, Line.pair, lateOf] at hp ⊢ <;> simp [hp, lateD])
  subst this
  simp
end
/-- the next key of a list with its own value -/
theorem tbl_take {ks : List Str} {T : Str → Int} {i : Nat} {s : Str} (nd : ks.Nodup) (hl : ks.length < 1000000) (hs : ks[i]? = some s) : putKey (tblD true (ks.take i) T) (.str s) (.int (T s)) = some (tblD true (ks.take (i + 1)) T) := by
  have htake : ks.take (i + 1) = ks.take i ++ [s] := by rw [List.take_succ, hs]; rfl
  have hnot : s ∉ ks.take i := by
    have := nd.sublist (List.take_sublist (i + 1) ks)
    rw [htake, List.nodup_append] at this
    exact fun z => this.2.2 s z s (by simp) rfl
  have p := tbl_put (T := T) (i := T s) hnot (by simp; omega)
  rw [← htake] at p
  rw [p]
  congr 1
  exact tbl_congr fun x _ => by by_cases e : x = s <;> simp [e]
theorem tbl_nil {b : Bool} {T : Str → Int} : tblD b [] T = .dct b [] [] := (rfl)
theorem names_eq {b c : Bool} {ks : List Str} (h : ∀ s ∈ ks, NameOk s) : eqD (.lst b (ks.map D.str)) (.lst c (ks.map D.str)) = some (.bl true) := by
  have hf : D.fitL 63 (ks.map D.str) = true := by simp; exact fun s hs => (h s hs).fit
  rw [eqD_ll hf hf]; simp
theorem names_ne {b c : Bool} {ks : List Str} (h : ∀ s ∈ ks, NameOk s) : neD (.lst b (ks.map D.str)) (.lst c (ks.map D.str)) = some (.bl false) := by
  have hf : D.fitL 63 (ks.map D.str) = true := by simp; exact fun s hs => (h s hs).fit
  rw [neD_ll hf hf]; simp
theorem tbl_ne {b c : Bool} {ks ls : List Str} {T : Str → Int} (hl : ks.length = ls.length) (h : ∀ s ∈ ks, s ∈ ls) : neD (tblD b ks T) (tblD c ls T) = some (.bl false) := by
  have := tbl_eq (b := b) (c := c) (T := T) hl h
  unfold neD; rw [this]; rfl
theorem rev_nd {α : Type} {xs : List α} (h : xs.Nodup) : xs.reverse.Nodup := (List.reverse_perm _).nodup_iff.mpr h
/-- parts of a row of digits -/
theorem cut_at {f : Int → D} {row : List Int} {k : Nat} (h : k ≤ row.length) : cutD (row.map f) none (some (k : Int)) = (row.take k).map f := by rw [cut_to (by simpa using h), List.map_take]
theorem cut_off {f : Int → D} {row : List Int} {k : Nat} (h : k ≤ row.length) : cutD (row.map f) (some (k : Int)) none = (row.drop k).map f := by
  unfold cutD
  rw [sIx_nat (by simpa using h), show HT.sIx (row.map f).length (row.map f).length none = (row.map f).length from rfl, List.map_drop, List.take_of_length_le (by simp)]
theorem cut_in {f : Int → D} {row : List Int} {j k : Nat} (h1 : j ≤ row.length) (h : k ≤ row.length) : cutD (row.map f) (some (j : Int)) (some (k : Int)) = ((row.drop j).take (k - j)).map f := by rw [cut_mid (by simpa using h1) (by simpa using h), List.map_take, List.map_drop]
theorem row_to {row : List Int} (hb : Digits row) (i : Int) (h0 : 0 ≤ i) (h : i ≤ row.length) : ∃ part : List Int, (part.length : Int) = i ∧ Digits part ∧ cutD (row.map D.int) none (some i) = part.map D.int := by
  obtain ⟨k, rfl⟩ := Int.eq_ofNat_of_zero_le h0
  exact ⟨row.take k, by simp; omega, fun x hx => hb x (List.mem_of_mem_take hx), cut_at (by omega)⟩
theorem row_off {row : List Int} (hb : Digits row) (i : Int) (h0 : 0 ≤ i) (h : i ≤ row.length) : ∃ part : List Int, (part.length : Int) = row.length - i ∧ Digits part ∧ cutD (row.map D.int) (some i) none = part.map D.int := by
  obtain ⟨k, rfl⟩ := Int.eq_ofNat_of_zero_le h0
  exact ⟨row.drop k, by simp; omega, fun x hx => hb x (List.mem_of_mem_drop hx), cut_off (by omega)⟩
theorem row_in {row : List Int} (hb : Digits row) (i j : Int) (h0 : 0 ≤ i) (h1 : i ≤ j) (h : j ≤ row.length) : ∃ part : List Int, (part.length : Int) = j - i ∧ Digits part ∧ cutD (row.map D.int) (some i) (some j) = part.map D.int := by
  obtain ⟨k, rfl⟩ := Int.eq_ofNat_of_zero_le h0
  obtain ⟨m, rfl⟩ := Int.eq_ofNat_of_zero_le (Int.le_trans h0 h1)
  exact ⟨(row.drop k).take (m - k), by simp; omega, fun x hx => hb x (List.mem_of_mem_drop (List.mem_of_mem_take hx)), cut_in (by omega) (by omega)⟩
end VI
set_option Elab.async false
set_option linter.all false
set_option maxRecDepth 100000
set_option autoImplicit false
namespace VI
open PySem L2
/- 0 _law_rows, 1 _law_digits, 2 _law_left, 3 _law_result, 4 _law_k, 5 _law_at -/
def l1_d_law_order : SM :=
    (sSeq (sKill [4] (sAsg 5 (mOp modD (mCall intD (mCons (mOp subscr (mV 1) (mV 4)) mNil)) (mCall lenD (mCons (mV 2) mNil)))))
    (sSeq (sEff (bMeth1 (pN 3) (mP (mOp subscr (mV 2) (mV 5))) opAppend))
    (sKill [5] (sAsg 2 (mOp addD (mSl (mV 2) mONone (mOSome (mV 5))) (mSl (mV 2) (mOSome (mOp addD (mV 5) (mC (D.int 1)))) mONone))))))
def b_d_law_order : SM :=
    (sSeq (sAsg 2 (mCall lstD (mCons (mV 0) mNil)))
    (sSeq (sAsg 3 (mLst mNil))
    (sSeq (sKill [1, 2, 0] (sFor (mRng1 (mCons (mCall lenD (mCons (mV 0) mNil)) mNil)) (tgN 4) l1_d_law_order))
    (sRetV 3))))
def f_d_law_order : List D → Option (D × Ev) := runF 2 6 b_d_law_order
/- 0 self, 1 other, 2 name, 3 seen, 4 viewer, 5 least, 6 most -/
def l1_m_Network_copy : SM :=
    (sKill [2] (sEff (mLendM f_m_Network_add_keeper 0 "add_keeper" [.p 1, .k 0, .k 1] [] (pN 1) (mCons (mV 2) mNil) (mCons (mOp subscr (mFld 0 "watches" (mV 0)) (mV 2)) (mCons (mOp subscr (mFld 0 "needs" (mV 0)) (mV 2)) mNil)))))
def l2_m_Network_copy : SM :=
    (sKill [5, 6, 3, 4] (sEff (mLendM f_m_Network_add_line 0 "add_line" [.p 1, .p 2, .k 0, .k 1] [] (pN 1) (mCons (mV 3) (mCons (mV 4) mNil)) (mCons (mV 5) (mCons (mV 6) mNil)))))
def b_m_Network_copy : SM :=
    (sSeq (sAsg 1 (mMake f_m_Network_ddinit 0 (mCons (mFld 0 "dawn" (mV 0)) mNil)))
    (sSeq (sFor (mItems' (mP (mFld 0 "names" (mV 0)))) (tgN 2) l1_m_Network_copy)
    (sSeq (sKill [0] (sFor (mItems' (mPos f_m_Network_lines (mRecv 0 "lines" (mV 0) mNil))) (tgTup 4 (tgCons (tgN 3) (tgCons (tgN 4) (tgCons (tgN 5) (tgCons (tgN 6) tgNil))))) l2_m_Network_copy))
    (sRetV 1))))
def f_m_Network_copy : List D → Option (D × Ev) := runF 1 7 b_m_Network_copy
/- 0 self, 1 network, 2 name -/
def c1_m_Log_ddinit : Ev → D → Option (Option (Key × D)) :=
    dcItem (tgN 2) mYes (mV 2) (mTup (mCons (mC (D.int 0)) (mCons (mP (mFld 0 "dawn" (mV 1))) mNil)))
def c2_m_Log_ddinit : Ev → D → Option (Option (Key × D)) :=
    dcItem (tgN 2) mYes (mV 2) (mC (D.bl false))
def b_m_Log_ddinit : SM :=
    (sSeq (sFldS 1 "network" (pN 0) (mPos f_m_Network_copy (mRecv 0 "copy" (mV 1) mNil)))
    (sSeq (sFldS 1 "windows" (pN 0) (mDcN (mOwnIt 0 "names" (mP (mV 1))) c1_m_Log_ddinit [2]))
    (sKill [1] (sFldS 1 "trusted" (pN 0) (mDcN (mOwnIt 0 "names" (mP (mV 1))) c2_m_Log_ddinit [2])))))
def f_m_Log_ddinit : List D → Option (D × Ev) := runF 2 3 b_m_Log_ddinit
/- 0 self, 1 name -/
def b_m_Log_window : SM :=
    (sSeq (sExp (mPos f_m_Network_need_keeper (mRecv 0 "need_keeper" (mFld 1 "network" (mV 0)) (mCons (mV 1) mNil))))
    (sRet (mP (mOp subscr (mFld 1 "windows" (mV 0)) (mV 1)))))
def f_m_Log_window : List D → Option (D × Ev) := runF 2 2 b_m_Log_window
/- 0 self, 1 name -/
def b_m_Log_is_trusted : SM :=
    (sSeq (sExp (mPos f_m_Network_need_keeper (mRecv 0 "need_keeper" (mFld 1 "network" (mV 0)) (mCons (mV 1) mNil))))
    (sRet (mP (mOp subscr (mFld 1 "trusted" (mV 0)) (mV 1)))))
def f_m_Log_is_trusted : List D → Option (D × Ev) := runF 2 2 b_m_Log_is_trusted
/- 0 self, 1 name, 2 low, 3 high, 4 dawn, 5 old_low, 6 old_high -/
def b_m_Log_note : SM :=
    (sSeq (sExp (mPos f_m_Network_need_keeper (mRecv 0 "need_keeper" (mFld 1 "network" (mV 0)) (mCons (mV 1) mNil))))
    (sSeq (sAsg 4 (mP (mFld 0 "dawn" (mFld 1 "network" (mV 0)))))
    (sSeq (sIf (mNot (mT (mCh leD leD (mC (D.int 0)) (mV 2) (mV 4))))
    (fun _ => none)
    sNx)
    (sSeq (sIf (mT (mOp isND (mV 3) (mC D.non)))
    (sAsg 3 (mP (mV 4)))
    sNx)
    (sSeq (sKill [4] (sIf (mNot (mT (mCh leD leD (mC (D.int 0)) (mV 3) (mV 4))))
    (fun _ => none)
    sNx))
    (sSeq (sAsgG (tgTup 2 (tgCons (tgN 5) (tgCons (tgN 6) tgNil))) (mP (mOp subscr (mFld 1 "windows" (mV 0)) (mV 1))))
    (sSeq (sKill [5] (sAsg 2 (mCall maxD (mCons (mV 2) (mCons (mV 5) mNil)))))
    (sSeq (sKill [6] (sAsg 3 (mCall minD (mCons (mV 3) (mCons (mV 6) mNil)))))
    (sSeq (sIf (mT (mOp gtD (mV 2) (mV 3)))
    (fun _ => none)
    sNx)
    (sKill [3, 2, 1] (sPut (pFld 1 "windows" (pN 0)) (mV 1) (mTup (mCons (mP (mV 2)) (mCons (mP (mV 3)) mNil))))))))))))))
def f_m_Log_note : List D → Option (D × Ev) := runF 4 7 b_m_Log_note
/- 0 _law_case, 1 _law_table, 2 _law_name, 3 _law_time, 4 _law_dim, 5 _law_line -/
def l1_d_law_enough_v3 : SM :=
    (sKill [5] (sIf (mAnd (mT (mOp eqD (mOp subscr (mV 5) (mC (D.int 1))) (mV 2))) (mT (mOp leD (mOp addD (mOp subscr (mV 1) (mOp subscr (mV 5) (mC (D.int 0)))) (mOp subscr (mV 5) (mC (D.int 2)))) (mV 3))))
    (sSeq (sIf (mT (mOp notND (mOp subscr (mV 5) (mC (D.int 3))) (mC D.non)))
    (sRet (mC (D.bl true)))
    sNx)
    (sAsg 4 (mOp addD (mV 4) (mC (D.int 1)))))
    sNx))
def b_d_law_enough_v3 : SM :=
    (sSeq (sAsg 4 (mC (D.int 0)))
    (sSeq (sKill [1, 3] (sFor (mItems' (mP (mOp subscr (mV 0) (mC (D.int 4))))) (tgN 5) l1_d_law_enough_v3))
    (sRet (mOp geD (mV 4) (mOp subscr (mOp subscr (mV 0) (mC (D.int 3))) (mOp indexD (mOp subscr (mV 0) (mC (D.int 1))) (mV 2)))))))
def f_d_law_enough_v3 : List D → Option (D × Ev) := runF 4 6 b_d_law_enough_v3
/- 0 _law_case_here, 1 _law_table, 2 _law_lates, 3 _law_name, 4 _law_moment_here, 5 _law_dim, 6 _law_k, 7 _law_wanted, 8 _law_line -/
def l1_d_law_moment : SM :=
    (sSeq (sAsg 8 (mP (mOp subscr (mOp subscr (mV 0) (mC (D.int 4))) (mV 6))))
    (sKill [6, 8] (sIf (mAnd (mT (mOp eqD (mOp subscr (mV 8) (mC (D.int 1))) (mV 3))) (mT (mOp notND (mOp subscr (mV 2) (mV 6)) (mC D.non))))
    (sIf (mT (mOp isND (mOp subscr (mV 8) (mC (D.int 3))) (mC D.non)))
    (sEff (bMeth1 (pN 5) (mOp addD (mOp subscr (mV 1) (mOp subscr (mV 8) (mC (D.int 0)))) (mOp subscr (mV 2) (mV 6))) opAppend))
    (sFrz 4 (sAsg 4 (mCall minD (mCons (mLst (mCons (mP (mV 4)) (mCons (mOp addD (mOp subscr (mV 1) (mOp subscr (mV 8) (mC (D.int 0)))) (mOp subscr (mV 2) (mV 6))) mNil))) mNil)))))
    sNx)))
def b_d_law_moment : SM :=
    (sSeq (sAsg 4 (mP (mOp subscr (mV 0) (mC (D.int 0)))))
    (sSeq (sAsg 5 (mLst mNil))
    (sSeq (sKill [2, 1] (sFor (mRng1 (mCons (mCall lenD (mCons (mOp subscr (mV 0) (mC (D.int 4))) mNil)) mNil)) (tgN 6) l1_d_law_moment))
    (sSeq (sKill [0, 3] (sAsg 7 (mP (mOp subscr (mOp subscr (mV 0) (mC (D.int 3))) (mOp indexD (mOp subscr (mV 0) (mC (D.int 1))) (mV 3))))))
    (sSeq (sKill [5, 7] (sIf (mT (mOp geD (mCall lenD (mCons (mV 5) mNil)) (mV 7)))
    (sFrz 4 (sAsg 4 (mCall minD (mCons (mLst (mCons (mP (mV 4)) (mCons (mP (mOp subscr (mCall sortedD (mCons (mV 5) mNil)) (mOp subD (mV 7) (mC (D.int 1))))) mNil))) mNil))))
    sNx))
    (sRetV 4))))))
def f_d_law_moment : List D → Option (D × Ev) := runF 4 9 b_d_law_moment
/- 0 _law_case, 1 _law_table, 2 _law_name, 3 _law_time, 4 _law_line -/
def l1_d_law_overdue : SM :=
    (sKill [4] (sIf (mAnd (mT (mOp eqD (mOp subscr (mV 4) (mC (D.int 1))) (mV 2))) (mAnd (mT (mOp notND (mOp subscr (mV 4) (mC (D.int 3))) (mC D.non))) (mT (mOp leD (mOp addD (mOp subscr (mV 1) (mOp subscr (mV 4) (mC (D.int 0)))) (mOp subscr (mV 4) (mC (D.int 3)))) (mV 3)))))
    (sRet (mC (D.bl true)))
    sNx))
def b_d_law_overdue : SM :=
    (sSeq (sKill [0, 2, 1, 3] (sFor (mItems' (mP (mOp subscr (mV 0) (mC (D.int 4))))) (tgN 4) l1_d_law_overdue))
    (sRet (mC (D.bl false))))
def f_d_law_overdue : List D → Option (D × Ev) := runF 4 5 b_d_law_overdue
/- 0 _law_case_here, 1 _law_row_here, 2 _law_table_here, 3 _law_windows_here, 4 _law_k, 5 _law_one, 6 _law_two, 7 _law_start, 8 _law_end -/
def l1_d_law_windows_v2 : SM :=
    (sSeq (sAsg 5 (mCall intD (mCons (mOp subscr (mV 1) (mOp mulD (mC (D.int 2)) (mV 4))) mNil)))
    (sSeq (sAsg 6 (mCall intD (mCons (mOp subscr (mV 1) (mOp addD (mOp mulD (mC (D.int 2)) (mV 4)) (mC (D.int 1)))) mNil)))
    (sSeq (sAsg 7 (mC (D.int 0)))
    (sSeq (sAsg 8 (mP (mOp subscr (mV 0) (mC (D.int 0)))))
    (sSeq (sKill [4, 5, 6] (sIf (mT (mOp isND (mV 2) (mC D.non)))
    (sSeq (sIf (mT (mOp gtD (mOp modD (mV 5) (mC (D.int 3))) (mC (D.int 0))))
    (sAsg 7 (mOp modD (mOp fdivD (mV 5) (mC (D.int 3))) (mOp addD (mOp subscr (mV 0) (mC (D.int 0))) (mC (D.int 1)))))
    sNx)
    (sIf (mT (mOp gtD (mOp modD (mV 6) (mC (D.int 3))) (mC (D.int 0))))
    (sAsg 8 (mOp addD (mV 7) (mOp modD (mOp fdivD (mV 6) (mC (D.int 3))) (mOp subD (mOp addD (mOp subscr (mV 0) (mC (D.int 0))) (mC (D.int 1))) (mV 7)))))
    sNx))
    (sSeq (sIf (mT (mOp gtD (mOp modD (mV 5) (mC (D.int 3))) (mC (D.int 0))))
    (sAsg 7 (mCall maxD (mCons (mLst (mCons (mC (D.int 0)) (mCons (mOp subD (mOp subscr (mV 2) (mOp subscr (mOp subscr (mV 0) (mC (D.int 1))) (mV 4))) (mOp modD (mOp fdivD (mV 5) (mC (D.int 3))) (mC (D.int 4)))) mNil))) mNil)))
    sNx)
    (sIf (mT (mOp gtD (mOp modD (mV 6) (mC (D.int 3))) (mC (D.int 0))))
    (sAsg 8 (mCall minD (mCons (mLst (mCons (mP (mOp subscr (mV 0) (mC (D.int 0)))) (mCons (mOp addD (mOp subscr (mV 2) (mOp subscr (mOp subscr (mV 0) (mC (D.int 1))) (mV 4))) (mOp modD (mOp fdivD (mV 6) (mC (D.int 3))) (mC (D.int 4)))) mNil))) mNil)))
    sNx))))
    (sFrz 8 (sFrz 7 (sKill [8, 7] (sEff (bMeth1 (pN 3) (mLst (mCons (mP (mV 7)) (mCons (mP (mV 8)) mNil))) opAppend))))))))))
def b_d_law_windows_v2 : SM :=
    (sSeq (sAsg 3 (mLst mNil))
    (sSeq (sKill [0, 1, 2] (sFor (mRng1 (mCons (mCall lenD (mCons (mOp subscr (mV 0) (mC (D.int 1))) mNil)) mNil)) (tgN 4) l1_d_law_windows_v2))
    (sRetV 3)))
def f_d_law_windows_v2 : List D → Option (D × Ev) := runF 3 9 b_d_law_windows_v2
/- 0 self, 1 name -/
def b_m_Log_trust : SM :=
    (sSeq (sExp (mPos f_m_Network_need_keeper (mRecv 0 "need_keeper" (mFld 1 "network" (mV 0)) (mCons (mV 1) mNil))))
    (sKill [1] (sPut (pFld 1 "trusted" (pN 0)) (mV 1) (mC (D.bl true)))))
def f_m_Log_trust : List D → Option (D × Ev) := runF 2 2 b_m_Log_trust
/- 0 _law_case_here, 1 _law_windows_here, 2 _law_trusted, 3 _law_log_here, 4 _law_k, 5 _law_name -/
def l1_d_law_log : SM :=
    (sKill [4] (sEff (mLendM f_m_Log_note 1 "note" [.p 1, .k 0, .k 1] [] (pN 3) (mCons (mOp subscr (mOp subscr (mV 0) (mC (D.int 1))) (mV 4)) mNil) (mCons (mOp subscr (mOp subscr (mV 1) (mV 4)) (mC (D.int 0))) (mCons (mOp subscr (mOp subscr (mV 1) (mV 4)) (mC (D.int 1))) mNil)))))
def l2_d_law_log : SM :=
    (sKill [5] (sEff (mLendM f_m_Log_trust 1 "trust" [.p 1] [] (pN 3) (mCons (mV 5) mNil) mNil)))
def b_d_law_log : SM :=
    (sSeq (sAsg 3 (mMake f_m_Log_ddinit 1 (mCons (mPos f_d_law_network (mCons (mV 0) mNil)) mNil)))
    (sSeq (sKill [0, 1] (sFor (mRng1 (mCons (mCall lenD (mCons (mOp subscr (mV 0) (mC (D.int 1))) mNil)) mNil)) (tgN 4) l1_d_law_log))
    (sSeq (sKill [2] (sFor (mItems' (mP (mV 2))) (tgN 5) l2_d_law_log))
    (sRetV 3))))
def f_d_law_log : List D → Option (D × Ev) := runF 3 6 b_d_law_log
/- 0 _law_case_here, 1 _law_row_here, 2 _law_table_here, 3 _law_k -/
def l1_d_law_table : SM :=
    (sKill [3] (sPut (pN 2) (mOp subscr (mOp subscr (mV 0) (mC (D.int 1))) (mV 3)) (mOp modD (mCall intD (mCons (mOp subscr (mV 1) (mV 3)) mNil)) (mOp addD (mOp subscr (mV 0) (mC (D.int 0))) (mC (D.int 1))))))
def b_d_law_table : SM :=
    (sSeq (sAsg 2 (mC (D.dct true [] [])))
    (sSeq (sKill [0, 1] (sFor (mRng1 (mCons (mCall lenD (mCons (mOp subscr (mV 0) (mC (D.int 1))) mNil)) mNil)) (tgN 3) l1_d_law_table))
    (sRetV 2)))
def f_d_law_table : List D → Option (D × Ev) := runF 2 4 b_d_law_table
/- 0 _law_case_here -/
def b_d_law_state : SM :=
    (sRet (mLst (mCons (mP (mOp subscr (mV 0) (mC (D.int 0)))) (mCons (mCall lstD (mCons (mOp subscr (mV 0) (mC (D.int 1))) mNil)) (mCons (mCall lstD (mCons (mOp subscr (mV 0) (mC (D.int 2))) mNil)) (mCons (mCall lstD (mCons (mOp subscr (mV 0) (mC (D.int 3))) mNil)) (mCons (mCall lstD (mCons (mOp subscr (mV 0) (mC (D.int 4))) mNil)) mNil)))))))
def f_d_law_state : List D → Option (D × Ev) := runF 1 1 b_d_law_state
/- 0 _law_found, 1 _law_span -/
def b_d_law_is_span : SM :=
    (sSeq (sIf (mT (mOp isND (mV 1) (mC D.non)))
    (sRet (mOp isND (mV 0) (mC D.non)))
    sNx)
    (sSeq (sIf (mOr (mNot (mTr (mIsi "tuple" (mV 0)))) (mOr (mT (mOp neD (mCall lenD (mCons (mV 0) mNil)) (mC (D.int 2)))) (mOr (mNot (mTr (mPos f_d_law_is_integer (mCons (mOp subscr (mV 0) (mC (D.int 0))) mNil)))) (mT (mOp neD (mOp subscr (mV 0) (mC (D.int 0))) (mOp subscr (mV 1) (mC (D.int 0))))))))
    (sRet (mC (D.bl false)))
    sNx)
    (sSeq (sIf (mT (mOp isND (mOp subscr (mV 1) (mC (D.int 1))) (mC D.non)))
    (sRet (mOp isND (mOp subscr (mV 0) (mC (D.int 1))) (mC D.non)))
    sNx)
    (sRet (mAndV (mPos f_d_law_is_integer (mCons (mOp subscr (mV 0) (mC (D.int 1))) mNil)) (mOp eqD (mOp subscr (mV 0) (mC (D.int 1))) (mOp subscr (mV 1) (mC (D.int 1)))))))))
def f_d_law_is_span : List D → Option (D × Ev) := runF 2 2 b_d_law_is_span
/- 0 _law_found, 1 _law_line -/
def b_d_law_is_line : SM :=
    (sSeq (sIf (mOr (mNot (mTr (mIsi "tuple" (mV 0)))) (mT (mOp neD (mCall lenD (mCons (mV 0) mNil)) (mC (D.int 4)))))
    (sRet (mC (D.bl false)))
    sNx)
    (sSeq (sIf (mOr (mNot (mTr (mIsi "str" (mOp subscr (mV 0) (mC (D.int 0)))))) (mNot (mTr (mIsi "str" (mOp subscr (mV 0) (mC (D.int 1)))))))
    (sRet (mC (D.bl false)))
    sNx)
    (sRet (mAndV (mOp eqD (mOp subscr (mV 0) (mC (D.int 0))) (mOp subscr (mV 1) (mC (D.int 0)))) (mAndV (mOp eqD (mOp subscr (mV 0) (mC (D.int 1))) (mOp subscr (mV 1) (mC (D.int 1)))) (mPos f_d_law_is_span (mCons (mTup (mCons (mP (mOp subscr (mV 0) (mC (D.int 2)))) (mCons (mP (mOp subscr (mV 0) (mC (D.int 3)))) mNil))) (mCons (mTup (mCons (mP (mOp subscr (mV 1) (mC (D.int 2)))) (mCons (mP (mOp subscr (mV 1) (mC (D.int 3)))) mNil))) mNil))))))))
def f_d_law_is_line : List D → Option (D × Ev) := runF 2 2 b_d_law_is_line
/- 0 _law_found, 1 _law_window -/
def b_d_law_is_window : SM :=
    (sSeq (sIf (mOr (mNot (mTr (mIsi "tuple" (mV 0)))) (mT (mOp neD (mCall lenD (mCons (mV 0) mNil)) (mC (D.int 2)))))
    (sRet (mC (D.bl false)))
    sNx)
    (sSeq (sIf (mOr (mNot (mTr (mPos f_d_law_is_integer (mCons (mOp subscr (mV 0) (mC (D.int 0))) mNil)))) (mNot (mTr (mPos f_d_law_is_integer (mCons (mOp subscr (mV 0) (mC (D.int 1))) mNil)))))
    (sRet (mC (D.bl false)))
    sNx)
    (sRet (mAndV (mOp eqD (mOp subscr (mV 0) (mC (D.int 0))) (mOp subscr (mV 1) (mC (D.int 0)))) (mOp eqD (mOp subscr (mV 0) (mC (D.int 1))) (mOp subscr (mV 1) (mC (D.int 1))))))))
def f_d_law_is_window : List D → Option (D × Ev) := runF 2 2 b_d_law_is_window
/- 0 _law_log, 1 _law_names_here, 2 _law_windows_here, 3 _law_trusted, 4 _law_rows, 5 _law_k, 6 _law_sure -/
def l1_d_law_noted : SM :=
    (sSeq (sIf (mOr (mNot (mTr (mIsi "tuple" (mOp subscr (mV 4) (mV 5))))) (mOr (mT (mOp neD (mCall lenD (mCons (mOp subscr (mV 4) (mV 5)) mNil)) (mC (D.int 2)))) (mT (mOp neD (mOp subscr (mOp subscr (mV 4) (mV 5)) (mC (D.int 0))) (mOp subscr (mV 1) (mV 5))))))
    (sRet (mC (D.bl false)))
    sNx)
    (sSeq (sIf (mOr (mNot (mTr (mPos f_d_law_is_window (mCons (mOp subscr (mOp subscr (mV 4) (mV 5)) (mC (D.int 1))) (mCons (mOp subscr (mV 2) (mV 5)) mNil))))) (mNot (mTr (mPos f_d_law_is_window (mCons (mPos f_m_Log_window (mRecv 1 "window" (mV 0) (mCons (mOp subscr (mV 1) (mV 5)) mNil))) (mCons (mOp subscr (mV 2) (mV 5)) mNil))))))
    (sRet (mC (D.bl false)))
    sNx)
    (sSeq (sAsg 6 (mPos f_m_Log_is_trusted (mRecv 1 "is_trusted" (mV 0) (mCons (mOp subscr (mV 1) (mV 5)) mNil))))
    (sKill [5, 6] (sIf (mOr (mNot (mTr (mIsi "bool" (mV 6)))) (mT (mOp neD (mV 6) (mOp inD (mOp subscr (mV 1) (mV 5)) (mV 3)))))
    (sRet (mC (D.bl false)))
    sNx)))))
def b_d_law_noted : SM :=
    (sSeq (sAsg 4 (mCall (lstItmF 1 "windows") (mCons (mV 0) mNil)))
    (sSeq (sIf (mT (mOp neD (mCall lenD (mCons (mV 4) mNil)) (mCall lenD (mCons (mV 1) mNil))))
    (sRet (mC (D.bl false)))
    sNx)
    (sSeq (sKill [0, 1, 4, 3, 2] (sFor (mRng1 (mCons (mCall lenD (mCons (mV 1) mNil)) mNil)) (tgN 5) l1_d_law_noted))
    (sRet (mC (D.bl true))))))
def f_d_law_noted : List D → Option (D × Ev) := runF 4 7 b_d_law_noted
/- 0 _law_network_here, 1 _law_case_here, 2 _law_k, 3 _law_found, 4 _law_name, 5 _law_watch, 6 _law_dims -/
def l1_d_law_same_v4 : SM :=
    (sSeq (sAsg 4 (mP (mOp subscr (mOp subscr (mV 1) (mC (D.int 1))) (mV 2))))
    (sSeq (sAsg 5 (mPos f_m_Network_is_lookout (mRecv 0 "is_lookout" (mV 0) (mCons (mV 4) mNil))))
    (sSeq (sAsg 6 (mPos f_m_Network_need_of (mRecv 0 "need_of" (mV 0) (mCons (mV 4) mNil))))
    (sSeq (sKill [4, 5] (sIf (mOr (mT (mOp (inOwnD 0 f_m_Network_ddcontains true) (mV 4) (mV 0))) (mOr (mNot (mTr (mIsi "bool" (mV 5)))) (mT (mOp neD (mV 5) (mOp subscr (mOp subscr (mV 1) (mC (D.int 2))) (mV 2))))))
    (sRet (mC (D.bl false)))
    sNx))
    (sKill [6, 2] (sIf (mOr (mNot (mTr (mPos f_d_law_is_integer (mCons (mV 6) mNil)))) (mT (mOp neD (mV 6) (mOp subscr (mOp subscr (mV 1) (mC (D.int 3))) (mV 2)))))
    (sRet (mC (D.bl false)))
    sNx))))))
def l2_d_law_same_v4 : SM :=
    (sKill [2] (sIf (mNot (mTr (mPos f_d_law_is_line (mCons (mOp subscr (mV 3) (mV 2)) (mCons (mOp subscr (mOp subscr (mV 1) (mC (D.int 4))) (mV 2)) mNil)))))
    (sRet (mC (D.bl false)))
    sNx))
def b_d_law_same_v4 : SM :=
    (sSeq (sIf (mOr (mNot (mTr (mPos f_d_law_is_integer (mCons (mFld 0 "dawn" (mV 0)) mNil)))) (mT (mOp neD (mFld 0 "dawn" (mV 0)) (mOp subscr (mV 1) (mC (D.int 0))))))
    (sRet (mC (D.bl false)))
    sNx)
    (sSeq (sIf (mOr (mT (mOp neD (mCall (lenF 0 "names") (mCons (mV 0) mNil)) (mCall lenD (mCons (mOp subscr (mV 1) (mC (D.int 1))) mNil)))) (mT (mOp neD (mCall (lstF 0 "names") (mCons (mV 0) mNil)) (mOp subscr (mV 1) (mC (D.int 1))))))
    (sRet (mC (D.bl false)))
    sNx)
    (sSeq (sFor (mRng1 (mCons (mCall lenD (mCons (mOp subscr (mV 1) (mC (D.int 1))) mNil)) mNil)) (tgN 2) l1_d_law_same_v4)
    (sSeq (sKill [0] (sAsg 3 (mPos f_m_Network_lines (mRecv 0 "lines" (mV 0) mNil))))
    (sSeq (sIf (mOr (mNot (mTr (mIsi "list" (mV 3)))) (mT (mOp neD (mCall lenD (mCons (mV 3) mNil)) (mCall lenD (mCons (mOp subscr (mV 1) (mC (D.int 4))) mNil)))))
    (sRet (mC (D.bl false)))
    sNx)
    (sSeq (sKill [1, 3] (sFor (mRng1 (mCons (mCall lenD (mCons (mOp subscr (mV 1) (mC (D.int 4))) mNil)) mNil)) (tgN 2) l2_d_law_same_v4))
    (sRet (mC (D.bl true)))))))))
def f_d_law_same_v4 : List D → Option (D × Ev) := runF 2 7 b_d_law_same_v4
/- 0 _law_case_here, 1 _law_row_here, 2 _law_table, 3 _law_windows_here, 4 _law_k, 5 _law_one, 6 _law_two, 7 _law_start, 8 _law_end -/
def l1_d_law_windows : SM :=
    (sSeq (sAsg 5 (mCall intD (mCons (mOp subscr (mV 1) (mOp mulD (mC (D.int 2)) (mV 4))) mNil)))
    (sSeq (sAsg 6 (mCall intD (mCons (mOp subscr (mV 1) (mOp addD (mOp mulD (mC (D.int 2)) (mV 4)) (mC (D.int 1)))) mNil)))
    (sSeq (sAsg 7 (mC (D.int 0)))
    (sSeq (sAsg 8 (mP (mOp subscr (mV 0) (mC (D.int 0)))))
    (sSeq (sKill [4, 5, 6] (sIf (mT (mOp isND (mV 2) (mC D.non)))
    (sSeq (sIf (mT (mOp gtD (mOp modD (mV 5) (mC (D.int 3))) (mC (D.int 0))))
    (sAsg 7 (mOp modD (mOp fdivD (mV 5) (mC (D.int 3))) (mOp addD (mOp subscr (mV 0) (mC (D.int 0))) (mC (D.int 1)))))
    sNx)
    (sIf (mT (mOp gtD (mOp modD (mV 6) (mC (D.int 3))) (mC (D.int 0))))
    (sAsg 8 (mOp addD (mV 7) (mOp modD (mOp fdivD (mV 6) (mC (D.int 3))) (mOp subD (mOp addD (mOp subscr (mV 0) (mC (D.int 0))) (mC (D.int 1))) (mV 7)))))
    sNx))
    (sSeq (sIf (mT (mOp gtD (mOp modD (mV 5) (mC (D.int 3))) (mC (D.int 0))))
    (sAsg 7 (mCall maxD (mCons (mLst (mCons (mC (D.int 0)) (mCons (mOp subD (mOp subscr (mV 2) (mOp subscr (mOp subscr (mV 0) (mC (D.int 1))) (mV 4))) (mOp modD (mOp fdivD (mV 5) (mC (D.int 3))) (mC (D.int 4)))) mNil))) mNil)))
    sNx)
    (sIf (mT (mOp gtD (mOp modD (mV 6) (mC (D.int 3))) (mC (D.int 0))))
    (sAsg 8 (mCall minD (mCons (mLst (mCons (mP (mOp subscr (mV 0) (mC (D.int 0)))) (mCons (mOp addD (mOp subscr (mV 2) (mOp subscr (mOp subscr (mV 0) (mC (D.int 1))) (mV 4))) (mOp modD (mOp fdivD (mV 6) (mC (D.int 3))) (mC (D.int 4)))) mNil))) mNil)))
    sNx))))
    (sFrz 8 (sFrz 7 (sKill [8, 7] (sEff (bMeth1 (pN 3) (mLst (mCons (mP (mV 7)) (mCons (mP (mV 8)) mNil))) opAppend))))))))))
def b_d_law_windows : SM :=
    (sSeq (sAsg 3 (mLst mNil))
    (sSeq (sKill [0, 1, 2] (sFor (mRng1 (mCons (mCall lenD (mCons (mOp subscr (mV 0) (mC (D.int 1))) mNil)) mNil)) (tgN 4) l1_d_law_windows))
    (sRetV 3)))
def f_d_law_windows : List D → Option (D × Ev) := runF 3 9 b_d_law_windows
/- 0 _law_row_here, 1 _law_dawn, 2 _law_count, 3 _law_lookouts, 4 _law_needs, 5 _law_k -/
def c1_d_law_keepers_v2 : Ev → D → Option (Option D) :=
    lcItem (tgN 5) mYes (mOp eqD (mOp modD (mCall intD (mCons (mOp subscr (mV 0) (mOp addD (mC (D.int 11)) (mV 5))) mNil)) (mC (D.int 3))) (mC (D.int 0)))
def c2_d_law_keepers_v2 : Ev → D → Option (Option D) :=
    lcItem (tgN 5) mYes (mOp addD (mC (D.int 1)) (mOp modD (mOp fdivD (mCall intD (mCons (mOp subscr (mV 0) (mOp addD (mC (D.int 11)) (mV 5))) mNil)) (mC (D.int 3))) (mC (D.int 8))))
def b_d_law_keepers_v2 : SM :=
    (sSeq (sAsg 1 (mOp addD (mC (D.int 1)) (mOp modD (mCall intD (mCons (mOp subscr (mV 0) (mC (D.int 0))) mNil)) (mC (D.int 100)))))
    (sSeq (sIf (mT (mOp eqD (mOp modD (mCall intD (mCons (mOp subscr (mV 0) (mC (D.int 1))) mNil)) (mC (D.int 8))) (mC (D.int 0))))
    (sAsg 1 (mOp addD (mC (D.int 1)) (mOp modD (mCall intD (mCons (mOp subscr (mV 0) (mC (D.int 0))) mNil)) (mC (D.int 2)))))
    sNx)
    (sSeq (sAsg 2 (mOp addD (mC (D.int 1)) (mOp modD (mCall intD (mCons (mOp subscr (mV 0) (mC (D.int 2))) mNil)) (mC (D.int 8)))))
    (sSeq (sAsg 3 (mLcN (mRng1 (mCons (mV 2) mNil)) c1_d_law_keepers_v2 [5]))
    (sSeq (sAsg 4 (mLcN (mRng1 (mCons (mV 2) mNil)) c2_d_law_keepers_v2 [5]))
    (sFrz 4 (sFrz 3 (sRet (mLst (mCons (mP (mV 1)) (mCons (mPos f_d_law_names (mCons (mSl (mV 0) (mOSome (mC (D.int 3))) (mOSome (mC (D.int 11)))) (mCons (mV 2) mNil))) (mCons (mP (mV 3)) (mCons (mP (mV 4)) (mCons (mLst mNil) mNil))))))))))))))
def f_d_law_keepers_v2 : List D → Option (D × Ev) := runF 1 6 b_d_law_keepers_v2
/- 0 _law_case, 1 _law_row_here, 2 _law_table, 3 _law_windows_here, 4 _law_k, 5 _law_one, 6 _law_two, 7 _law_start, 8 _law_end -/
def l1_d_law_windows_v3 : SM :=
    (sSeq (sAsg 5 (mCall intD (mCons (mOp subscr (mV 1) (mOp mulD (mC (D.int 2)) (mV 4))) mNil)))
    (sSeq (sAsg 6 (mCall intD (mCons (mOp subscr (mV 1) (mOp addD (mOp mulD (mC (D.int 2)) (mV 4)) (mC (D.int 1)))) mNil)))
    (sSeq (sAsg 7 (mC (D.int 0)))
    (sSeq (sAsg 8 (mP (mOp subscr (mV 0) (mC (D.int 0)))))
    (sSeq (sKill [4, 5, 6] (sIf (mT (mOp isND (mV 2) (mC D.non)))
    (sSeq (sIf (mT (mOp gtD (mOp modD (mV 5) (mC (D.int 3))) (mC (D.int 0))))
    (sAsg 7 (mOp modD (mOp fdivD (mV 5) (mC (D.int 3))) (mOp addD (mOp subscr (mV 0) (mC (D.int 0))) (mC (D.int 1)))))
    sNx)
    (sIf (mT (mOp gtD (mOp modD (mV 6) (mC (D.int 3))) (mC (D.int 0))))
    (sAsg 8 (mOp addD (mV 7) (mOp modD (mOp fdivD (mV 6) (mC (D.int 3))) (mOp subD (mOp addD (mOp subscr (mV 0) (mC (D.int 0))) (mC (D.int 1))) (mV 7)))))
    sNx))
    (sSeq (sIf (mT (mOp gtD (mOp modD (mV 5) (mC (D.int 3))) (mC (D.int 0))))
    (sAsg 7 (mCall maxD (mCons (mLst (mCons (mC (D.int 0)) (mCons (mOp subD (mOp subscr (mV 2) (mOp subscr (mOp subscr (mV 0) (mC (D.int 1))) (mV 4))) (mOp modD (mOp fdivD (mV 5) (mC (D.int 3))) (mC (D.int 4)))) mNil))) mNil)))
    sNx)
    (sIf (mT (mOp gtD (mOp modD (mV 6) (mC (D.int 3))) (mC (D.int 0))))
    (sAsg 8 (mCall minD (mCons (mLst (mCons (mP (mOp subscr (mV 0) (mC (D.int 0)))) (mCons (mOp addD (mOp subscr (mV 2) (mOp subscr (mOp subscr (mV 0) (mC (D.int 1))) (mV 4))) (mOp modD (mOp fdivD (mV 6) (mC (D.int 3))) (mC (D.int 4)))) mNil))) mNil)))
    sNx))))
    (sFrz 8 (sFrz 7 (sKill [8, 7] (sEff (bMeth1 (pN 3) (mLst (mCons (mP (mV 7)) (mCons (mP (mV 8)) mNil))) opAppend))))))))))
def b_d_law_windows_v3 : SM :=
    (sSeq (sAsg 3 (mLst mNil))
    (sSeq (sKill [0, 1, 2] (sFor (mRng1 (mCons (mCall lenD (mCons (mOp subscr (mV 0) (mC (D.int 1))) mNil)) mNil)) (tgN 4) l1_d_law_windows_v3))
    (sRetV 3)))
def f_d_law_windows_v3 : List D → Option (D × Ev) := runF 3 9 b_d_law_windows_v3
/- 0 _law_case, 1 _law_windows_here, 2 _law_trusted, 3 _law_log_here, 4 _law_k, 5 _law_name -/
def l1_d_law_log_v2 : SM :=
    (sKill [4] (sEff (mLendM f_m_Log_note 1 "note" [.p 1, .k 0, .k 1] [] (pN 3) (mCons (mOp subscr (mOp subscr (mV 0) (mC (D.int 1))) (mV 4)) mNil) (mCons (mOp subscr (mOp subscr (mV 1) (mV 4)) (mC (D.int 0))) (mCons (mOp subscr (mOp subscr (mV 1) (mV 4)) (mC (D.int 1))) mNil)))))
def l2_d_law_log_v2 : SM :=
    (sKill [5] (sEff (mLendM f_m_Log_trust 1 "trust" [.p 1] [] (pN 3) (mCons (mV 5) mNil) mNil)))
def b_d_law_log_v2 : SM :=
    (sSeq (sAsg 3 (mMake f_m_Log_ddinit 1 (mCons (mPos f_d_law_network_v2 (mCons (mV 0) mNil)) mNil)))
    (sSeq (sKill [0, 1] (sFor (mRng1 (mCons (mCall lenD (mCons (mOp subscr (mV 0) (mC (D.int 1))) mNil)) mNil)) (tgN 4) l1_d_law_log_v2))
    (sSeq (sKill [2] (sFor (mItems' (mP (mV 2))) (tgN 5) l2_d_law_log_v2))
    (sRetV 3))))
def f_d_law_log_v2 : List D → Option (D × Ev) := runF 3 6 b_d_law_log_v2
/- 0 self, 1 name -/
def b_m_Log_forget : SM :=
    (sSeq (sExp (mPos f_m_Network_need_keeper (mRecv 0 "need_keeper" (mFld 1 "network" (mV 0)) (mCons (mV 1) mNil))))
    (sKill [1] (sPut (pFld 1 "windows" (pN 0)) (mV 1) (mTup (mCons (mC (D.int 0)) (mCons (mP (mFld 0 "dawn" (mFld 1 "network" (mV 0)))) mNil))))))
def f_m_Log_forget : List D → Option (D × Ev) := runF 2 2 b_m_Log_forget
/- 0 log, 1 kinds, 2 network, 3 result, 4 turn, 5 viewer, 6 name, 7 seen, 8 least, 9 most -/
def c1_d_raise_floors : Ev → D → Option (Option (Key × D)) :=
    dcItem (tgN 6) mYes (mV 6) (mP (mOp subscr (mPos f_m_Log_window (mRecv 1 "window" (mV 0) (mCons (mV 6) mNil))) (mC (D.int 0))))
def l2_d_raise_floors : SM :=
    (sKill [8] (sKill [9, 7] (sIf (mT (mOp notND (mV 9) (mC D.non)))
    (sPut (pN 3) (mV 7) (mCall maxD (mCons (mOp subscr (mV 3) (mV 7)) (mCons (mOp subD (mOp subscr (mV 3) (mV 5)) (mV 9)) mNil))))
    sNx)))
def l3_d_raise_floors : SM :=
    (sKill [5] (sIf (mT (mOp neD (mGet1 (mV 1) (mV 5)) (mC (D.str "sleep"))))
    (sFor (mItems' (mPos f_m_Network_lines_to (mRecv 0 "lines_to" (mV 2) (mCons (mV 5) mNil)))) (tgTup 3 (tgCons (tgN 7) (tgCons (tgN 8) (tgCons (tgN 9) tgNil)))) l2_d_raise_floors)
    sNx))
def l4_d_raise_floors : SM :=
    (sKill [4] (sFrz 2 (sFor (mOwnIt 0 "names" (mP (mV 2))) (tgN 5) l3_d_raise_floors)))
def b_d_raise_floors : SM :=
    (sSeq (sAsg 2 (mP (mFld 1 "network" (mV 0))))
    (sSeq (sFrz 2 (sKill [0] (sAsg 3 (mDcN (mOwnIt 0 "names" (mP (mV 2))) c1_d_raise_floors [6]))))
    (sSeq (sKill [1, 2] (sFor (mRng1 (mCons (mCall (lenF 0 "names") (mCons (mV 2) mNil)) mNil)) (tgN 4) l4_d_raise_floors))
    (sRetV 3))))
def f_d_raise_floors : List D → Option (D × Ev) := runF 2 10 b_d_raise_floors
/- 0 log, 1 faults -/
def b_d_kinds_of : SM :=
    (sRet (mCall dictD (mCons (mPos f_d_check_faults (mCons (mFld 1 "network" (mV 0)) (mCons (mV 1) mNil))) mNil)))
def f_d_kinds_of : List D → Option (D × Ev) := runF 2 2 b_d_kinds_of
/- 0 log, 1 faults -/
def b_d_floors : SM :=
    (sRet (mPos f_d_raise_floors (mCons (mV 0) (mCons (mPos f_d_kinds_of (mCons (mV 0) (mCons (mV 1) mNil))) mNil))))
def f_d_floors : List D → Option (D × Ev) := runF 2 2 b_d_floors
/- 0 _law_log_here, 1 _law_case, 2 _law_windows_here, 3 _law_found, 4 _law_k -/
def l1_d_law_floors : SM :=
    (sKill [4] (sIf (mOr (mNot (mTr (mPos f_d_law_is_integer (mCons (mOp subscr (mV 3) (mOp subscr (mOp subscr (mV 1) (mC (D.int 1))) (mV 4))) mNil)))) (mT (mOp neD (mOp subscr (mV 3) (mOp subscr (mOp subscr (mV 1) (mC (D.int 1))) (mV 4))) (mOp subscr (mOp subscr (mV 2) (mV 4)) (mC (D.int 0))))))
    (sRet (mC (D.bl false)))
    sNx))
def b_d_law_floors : SM :=
    (sSeq (sKill [0] (sAsg 3 (mPos f_d_floors (mCons (mV 0) (mCons (mLst mNil) mNil)))))
    (sSeq (sIf (mOr (mNot (mTr (mIsi "dict" (mV 3)))) (mT (mOp neD (mCall lstD (mCons (mV 3) mNil)) (mOp subscr (mV 1) (mC (D.int 1))))))
    (sRet (mC (D.bl false)))
    sNx)
    (sSeq (sKill [1, 3, 2] (sFor (mRng1 (mCons (mCall lenD (mCons (mOp subscr (mV 1) (mC (D.int 1))) mNil)) mNil)) (tgN 4) l1_d_law_floors))
    (sRet (mC (D.bl true))))))
def f_d_law_floors : List D → Option (D × Ev) := runF 3 5 b_d_law_floors
/- 0 self, 1 other -/
def b_m_Log_copy : SM :=
    (sSeq (sAsg 1 (mMake f_m_Log_ddinit 1 (mCons (mFld 1 "network" (mV 0)) mNil)))
    (sSeq (sFldS 1 "windows" (pN 1) (mCall dictD (mCons (mFld 1 "windows" (mV 0)) mNil)))
    (sSeq (sKill [0] (sFldS 1 "trusted" (pN 1) (mCall dictD (mCons (mFld 1 "trusted" (mV 0)) mNil))))
    (sRetV 1))))
def f_m_Log_copy : List D → Option (D × Ev) := runF 1 2 b_m_Log_copy
/- 0 _law_case_here, 1 _law_windows_here, 2 _law_table, 3 _law_k -/
def l1_d_law_inside_v2 : SM :=
    (sKill [3] (sIf (mOr (mT (mOp ltD (mOp subscr (mV 2) (mOp subscr (mOp subscr (mV 0) (mC (D.int 1))) (mV 3))) (mOp subscr (mOp subscr (mV 1) (mV 3)) (mC (D.int 0))))) (mT (mOp gtD (mOp subscr (mV 2) (mOp subscr (mOp subscr (mV 0) (mC (D.int 1))) (mV 3))) (mOp subscr (mOp subscr (mV 1) (mV 3)) (mC (D.int 1))))))
    (sRet (mC (D.bl false)))
    sNx))
def b_d_law_inside_v2 : SM :=
    (sSeq (sKill [0, 2, 1] (sFor (mRng1 (mCons (mCall lenD (mCons (mOp subscr (mV 0) (mC (D.int 1))) mNil)) mNil)) (tgN 3) l1_d_law_inside_v2))
    (sRet (mC (D.bl true))))
def f_d_law_inside_v2 : List D → Option (D × Ev) := runF 3 4 b_d_law_inside_v2
/- 0 self, 1 table, 2 name, 3 low, 4 high -/
def l1_m_Log_ddcontains : SM :=
    (sSeq (sAsgG (tgTup 2 (tgCons (tgN 3) (tgCons (tgN 4) tgNil))) (mP (mOp subscr (mFld 1 "windows" (mV 0)) (mV 2))))
    (sKill [4, 3, 2] (sIf (mNot (mT (mCh leD leD (mV 3) (mOp subscr (mV 1) (mV 2)) (mV 4))))
    (sRet (mC (D.bl false)))
    sNx)))
def b_m_Log_ddcontains : SM :=
    (sSeq (sKill [0, 1] (sFor (fun A => ((mFld 1 "windows" (mV 0)) A).bind keysOf) (tgN 2) l1_m_Log_ddcontains))
    (sRet (mC (D.bl true))))
def f_m_Log_ddcontains : List D → Option (D × Ev) := runF 2 5 b_m_Log_ddcontains
/- 0 _law_row_here, 1 _law_dawn, 2 _law_count, 3 _law_lookouts, 4 _law_needs, 5 _law_k -/
def c1_d_law_keepers : Ev → D → Option (Option D) :=
    lcItem (tgN 5) mYes (mOp eqD (mOp modD (mCall intD (mCons (mOp subscr (mV 0) (mOp addD (mC (D.int 11)) (mV 5))) mNil)) (mC (D.int 3))) (mC (D.int 0)))
def c2_d_law_keepers : Ev → D → Option (Option D) :=
    lcItem (tgN 5) mYes (mOp addD (mC (D.int 1)) (mOp modD (mOp fdivD (mCall intD (mCons (mOp subscr (mV 0) (mOp addD (mC (D.int 11)) (mV 5))) mNil)) (mC (D.int 3))) (mC (D.int 8))))
def b_d_law_keepers : SM :=
    (sSeq (sAsg 1 (mOp addD (mC (D.int 1)) (mOp modD (mCall intD (mCons (mOp subscr (mV 0) (mC (D.int 0))) mNil)) (mC (D.int 100)))))
    (sSeq (sIf (mT (mOp eqD (mOp modD (mCall intD (mCons (mOp subscr (mV 0) (mC (D.int 1))) mNil)) (mC (D.int 8))) (mC (D.int 0))))
    (sAsg 1 (mOp addD (mC (D.int 1)) (mOp modD (mCall intD (mCons (mOp subscr (mV 0) (mC (D.int 0))) mNil)) (mC (D.int 2)))))
    sNx)
    (sSeq (sAsg 2 (mOp modD (mCall intD (mCons (mOp subscr (mV 0) (mC (D.int 2))) mNil)) (mC (D.int 9))))
    (sSeq (sAsg 3 (mLcN (mRng1 (mCons (mV 2) mNil)) c1_d_law_keepers [5]))
    (sSeq (sAsg 4 (mLcN (mRng1 (mCons (mV 2) mNil)) c2_d_law_keepers [5]))
    (sFrz 4 (sFrz 3 (sRet (mLst (mCons (mP (mV 1)) (mCons (mPos f_d_law_names (mCons (mSl (mV 0) (mOSome (mC (D.int 3))) (mOSome (mC (D.int 11)))) (mCons (mV 2) mNil))) (mCons (mP (mV 3)) (mCons (mP (mV 4)) (mCons (mLst mNil) mNil))))))))))))))
def f_d_law_keepers : List D → Option (D × Ev) := runF 1 6 b_d_law_keepers
/- 0 _law_case_here, 1 _law_row_here, 2 _law_lates_here, 3 _law_k, 4 _law_line, 5 _law_digit -/
def l1_d_law_lates : SM :=
    (sSeq (sAsg 4 (mP (mOp subscr (mOp subscr (mV 0) (mC (D.int 4))) (mV 3))))
    (sSeq (sKill [3] (sAsg 5 (mCall intD (mCons (mOp subscr (mV 1) (mOp modD (mV 3) (mC (D.int 30)))) mNil))))
    (sKill [5, 4] (sIf (mT (mOp notND (mOp subscr (mV 4) (mC (D.int 3))) (mC D.non)))
    (sEff (bMeth1 (pN 2) (mOp addD (mOp subscr (mV 4) (mC (D.int 2))) (mOp modD (mV 5) (mOp addD (mOp subD (mOp subscr (mV 4) (mC (D.int 3))) (mOp subscr (mV 4) (mC (D.int 2)))) (mC (D.int 1))))) opAppend))
    (sIf (mT (mOp eqD (mOp modD (mV 5) (mC (D.int 3))) (mC (D.int 0))))
    (sEff (bMeth1 (pN 2) (mC D.non) opAppend))
    (sEff (bMeth1 (pN 2) (mOp addD (mOp subscr (mV 4) (mC (D.int 2))) (mOp modD (mOp fdivD (mV 5) (mC (D.int 3))) (mC (D.int 7)))) opAppend)))))))
def b_d_law_lates : SM :=
    (sSeq (sAsg 2 (mLst mNil))
    (sSeq (sKill [0, 1] (sFor (mRng1 (mCons (mCall lenD (mCons (mOp subscr (mV 0) (mC (D.int 4))) mNil)) mNil)) (tgN 3) l1_d_law_lates))
    (sRetV 2)))
def f_d_law_lates : List D → Option (D × Ev) := runF 2 6 b_d_law_lates
/- 0 _law_case_here, 1 _law_row_here, 2 _law_most_faults, 3 _law_lates_here, 4 _law_own, 5 _law_failing, 6 _law_k, 7 _law_table_here, 8 _law_name, 9 _law_turn, 10 _law_moment_here -/
def l1_d_law_run : SM :=
    (sSeq (sAsg 8 (mP (mOp subscr (mOp subscr (mV 0) (mC (D.int 1))) (mV 6))))
    (sSeq (sIf (mAnd (mT (mOp eqD (mOp modD (mCall intD (mCons (mOp subscr (mV 1) (mV 6)) mNil)) (mC (D.int 3))) (mC (D.int 1)))) (mT (mOp ltD (mCall lenD (mCons (mV 5) mNil)) (mV 2))))
    (sFrz 8 (sEff (bMeth1 (pN 5) (mP (mV 8)) opAppend)))
    sNx)
    (sKill [6, 8] (sIf (mOr (mT (mOp inD (mV 8) (mV 5))) (mTr (mOp subscr (mOp subscr (mV 0) (mC (D.int 2))) (mV 6))))
    (sPut (pN 4) (mV 8) (mOp modD (mCall intD (mCons (mOp subscr (mV 1) (mOp addD (mC (D.int 8)) (mV 6))) mNil)) (mOp addD (mOp subscr (mV 0) (mC (D.int 0))) (mC (D.int 1)))))
    sNx))))
def l2_d_law_run : SM :=
    (sKill [8] (sPut (pN 7) (mV 8) (mP (mOp subscr (mV 0) (mC (D.int 0))))))
def l3_d_law_run : SM :=
    (sKill [10, 8] (sIf (mT (mOp inD (mV 8) (mV 5)))
    (sPut (pN 7) (mV 8) (mP (mOp subscr (mV 4) (mV 8))))
    (sSeq (sAsg 10 (mPos f_d_law_moment (mCons (mV 0) (mCons (mV 7) (mCons (mV 3) (mCons (mV 8) mNil))))))
    (sSeq (sIf (mT (mOp inD (mV 8) (mV 4)))
    (sFrz 10 (sAsg 10 (mCall minD (mCons (mLst (mCons (mP (mV 10)) (mCons (mP (mOp subscr (mV 4) (mV 8))) mNil))) mNil))))
    sNx)
    (sFrz 10 (sPut (pN 7) (mV 8) (mP (mV 10))))))))
def l4_d_law_run : SM :=
    (sKill [9] (sFor (mItems' (mP (mOp subscr (mV 0) (mC (D.int 1))))) (tgN 8) l3_d_law_run))
def b_d_law_run : SM :=
    (sSeq (sAsg 3 (mPos f_d_law_lates (mCons (mV 0) (mCons (mSl (mV 1) (mOSome (mC (D.int 30))) (mOSome (mC (D.int 60)))) mNil))))
    (sSeq (sAsg 4 (mC (D.dct true [] [])))
    (sSeq (sAsg 5 (mLst mNil))
    (sSeq (sKill [2, 1] (sFor (mRng1 (mCons (mCall lenD (mCons (mOp subscr (mV 0) (mC (D.int 1))) mNil)) mNil)) (tgN 6) l1_d_law_run))
    (sSeq (sAsg 7 (mC (D.dct true [] [])))
    (sSeq (sFor (mItems' (mP (mOp subscr (mV 0) (mC (D.int 1))))) (tgN 8) l2_d_law_run)
    (sSeq (sKill [0, 5, 3, 4] (sFor (mRng1 (mCons (mOp addD (mCall lenD (mCons (mOp subscr (mV 0) (mC (D.int 1))) mNil)) (mC (D.int 1))) mNil)) (tgN 9) l4_d_law_run))
    (sRetV 7))))))))
def f_d_law_run : List D → Option (D × Ev) := runF 3 11 b_d_law_run
/- 0 _law_case_here, 1 _law_table_here, 2 _law_name, 3 _law_time, 4 _law_dim, 5 _law_line -/
def l1_d_law_enough_v2 : SM :=
    (sKill [5] (sIf (mAnd (mT (mOp eqD (mOp subscr (mV 5) (mC (D.int 1))) (mV 2))) (mT (mOp leD (mOp addD (mOp subscr (mV 1) (mOp subscr (mV 5) (mC (D.int 0)))) (mOp subscr (mV 5) (mC (D.int 2)))) (mV 3))))
    (sSeq (sIf (mT (mOp notND (mOp subscr (mV 5) (mC (D.int 3))) (mC D.non)))
    (sRet (mC (D.bl true)))
    sNx)
    (sAsg 4 (mOp addD (mV 4) (mC (D.int 1)))))
    sNx))
def b_d_law_enough_v2 : SM :=
    (sSeq (sAsg 4 (mC (D.int 0)))
    (sSeq (sKill [1, 3] (sFor (mItems' (mP (mOp subscr (mV 0) (mC (D.int 4))))) (tgN 5) l1_d_law_enough_v2))
    (sRet (mOp geD (mV 4) (mOp subscr (mOp subscr (mV 0) (mC (D.int 3))) (mOp indexD (mOp subscr (mV 0) (mC (D.int 1))) (mV 2)))))))
def f_d_law_enough_v2 : List D → Option (D × Ev) := runF 4 6 b_d_law_enough_v2
/- 0 _law_case_here, 1 _law_table_here, 2 _law_name, 3 _law_time, 4 _law_line -/
def l1_d_law_kind : SM :=
    (sKill [4] (sIf (mAnd (mT (mOp eqD (mOp subscr (mV 4) (mC (D.int 1))) (mV 2))) (mAnd (mT (mOp notND (mOp subscr (mV 4) (mC (D.int 3))) (mC D.non))) (mT (mOp ltD (mOp addD (mOp subscr (mV 1) (mOp subscr (mV 4) (mC (D.int 0)))) (mOp subscr (mV 4) (mC (D.int 3)))) (mV 3)))))
    (sRet (mC (D.str "sleep")))
    sNx))
def b_d_law_kind : SM :=
    (sSeq (sAsg 3 (mP (mOp subscr (mV 1) (mV 2))))
    (sSeq (sIf (mAnd (mT (mOp ltD (mV 3) (mOp subscr (mV 0) (mC (D.int 0))))) (mAnd (mNot (mTr (mOp subscr (mOp subscr (mV 0) (mC (D.int 2))) (mOp indexD (mOp subscr (mV 0) (mC (D.int 1))) (mV 2))))) (mNot (mTr (mPos f_d_law_enough_v2 (mCons (mV 0) (mCons (mV 1) (mCons (mV 2) (mCons (mV 3) mNil)))))))))
    (sRet (mC (D.str "err")))
    sNx)
    (sSeq (sKill [0, 2, 1, 3] (sFor (mItems' (mP (mOp subscr (mV 0) (mC (D.int 4))))) (tgN 4) l1_d_law_kind))
    (sRet (mC (D.str ""))))))
def f_d_law_kind : List D → Option (D × Ev) := runF 3 5 b_d_law_kind
/- 0 _law_case_here, 1 _law_table_here, 2 _law_faults_here, 3 _law_name, 4 _law_kind_here -/
def l1_d_law_faults : SM :=
    (sSeq (sAsg 4 (mPos f_d_law_kind (mCons (mV 0) (mCons (mV 1) (mCons (mV 3) mNil)))))
    (sKill [4, 3] (sIf (mT (mOp neD (mV 4) (mC (D.str ""))))
    (sFrz 4 (sEff (bMeth1 (pN 2) (mTup (mCons (mP (mV 3)) (mCons (mP (mV 4)) mNil))) opAppend)))
    sNx)))
def b_d_law_faults : SM :=
    (sSeq (sAsg 2 (mLst mNil))
    (sSeq (sKill [0, 1] (sFor (mItems' (mP (mOp subscr (mV 0) (mC (D.int 1))))) (tgN 3) l1_d_law_faults))
    (sRetV 2)))
def f_d_law_faults : List D → Option (D × Ev) := runF 2 5 b_d_law_faults
/- 0 network, 1 table, 2 faults, 3 name, 4 kind -/
def l1_d_faults_of : SM :=
    (sSeq (sAsg 4 (mPos f_d_fault_of (mCons (mV 0) (mCons (mV 1) (mCons (mV 3) mNil)))))
    (sKill [4, 3] (sIf (mT (mOp notND (mV 4) (mC D.non)))
    (sFrz 4 (sEff (bMeth1 (pN 2) (mTup (mCons (mP (mV 3)) (mCons (mP (mV 4)) mNil))) opAppend)))
    sNx)))
def b_d_faults_of : SM :=
    (sSeq (sAsg 2 (mLst mNil))
    (sSeq (sKill [0, 1] (sFor (mOwnIt 0 "names" (mP (mV 0))) (tgN 3) l1_d_faults_of))
    (sRetV 2)))
def f_d_faults_of : List D → Option (D × Ev) := runF 2 5 b_d_faults_of
/- 0 _law_found, 1 _law_faults_here, 2 _law_k -/
def l1_d_law_is_list : SM :=
    (sSeq (sIf (mOr (mNot (mTr (mIsi "tuple" (mOp subscr (mV 0) (mV 2))))) (mT (mOp neD (mCall lenD (mCons (mOp subscr (mV 0) (mV 2)) mNil)) (mC (D.int 2)))))
    (sRet (mC (D.bl false)))
    sNx)
    (sKill [2] (sIf (mOr (mNot (mTr (mIsi "str" (mOp subscr (mOp subscr (mV 0) (mV 2)) (mC (D.int 0)))))) (mOr (mNot (mTr (mIsi "str" (mOp subscr (mOp subscr (mV 0) (mV 2)) (mC (D.int 1)))))) (mT (mOp neD (mOp subscr (mV 0) (mV 2)) (mOp subscr (mV 1) (mV 2))))))
    (sRet (mC (D.bl false)))
    sNx)))
def b_d_law_is_list : SM :=
    (sSeq (sIf (mOr (mNot (mTr (mIsi "list" (mV 0)))) (mT (mOp neD (mCall lenD (mCons (mV 0) mNil)) (mCall lenD (mCons (mV 1) mNil)))))
    (sRet (mC (D.bl false)))
    sNx)
    (sSeq (sKill [1, 0] (sFor (mRng1 (mCons (mCall lenD (mCons (mV 1) mNil)) mNil)) (tgN 2) l1_d_law_is_list))
    (sRet (mC (D.bl true)))))
def f_d_law_is_list : List D → Option (D × Ev) := runF 2 3 b_d_law_is_list
/- 0 network, 1 table, 2 faults, 3 allowed, 4 fault -/
def l1_d_fits : SM :=
    (sKill [4] (sIf (mT (mOp ninD (mV 4) (mV 3)))
    (sRet (mC (D.bl false)))
    sNx))
def b_d_fits : SM :=
    (sSeq (sKill [2] (sAsg 3 (mPos f_d_check_faults (mCons (mV 0) (mCons (mV 2) mNil)))))
    (sSeq (sKill [3, 0, 1] (sFor (mItems' (mPos f_d_faults_of (mCons (mV 0) (mCons (mV 1) mNil)))) (tgN 4) l1_d_fits))
    (sRet (mC (D.bl true)))))
def f_d_fits : List D → Option (D × Ev) := runF 3 5 b_d_fits
/- 0 log, 1 table, 2 first, 3 name -/
def l1_d_is_first : SM :=
    (sKill [3] (sIf (mT (mOp ltD (mOp subscr (mV 1) (mV 3)) (mOp subscr (mV 1) (mV 2))))
    (sRet (mC (D.bl false)))
    sNx))
def b_d_is_first : SM :=
    (sSeq (sIf (mT (mOp isND (mV 2) (mC D.non)))
    (sRet (mC (D.bl true)))
    sNx)
    (sSeq (sIf (mT (mOp geD (mOp subscr (mV 1) (mV 2)) (mFld 0 "dawn" (mFld 1 "network" (mV 0)))))
    (sRet (mC (D.bl false)))
    sNx)
    (sSeq (sKill [2, 0, 1] (sFor (mOwnIt 0 "names" (mP (mFld 1 "network" (mV 0)))) (tgN 3) l1_d_is_first))
    (sRet (mC (D.bl true))))))
def f_d_is_first : List D → Option (D × Ev) := runF 3 4 b_d_is_first
/- 0 log, 1 table, 2 most, 3 first, 4 faults, 5 name, 6 kind -/
def l1_d_explains : SM :=
    (sKill [6] (sKill [5] (sIf (mTr (mPos f_m_Log_is_trusted (mRecv 1 "is_trusted" (mV 0) (mCons (mV 5) mNil))))
    (sRet (mC (D.bl false)))
    sNx)))
def b_d_explains : SM :=
    (sSeq (sIf (mT (mOp notND (mV 3) (mC D.non)))
    (sExp (mPos f_m_Network_need_keeper (mRecv 0 "need_keeper" (mFld 1 "network" (mV 0)) (mCons (mV 3) mNil))))
    sNx)
    (sSeq (sKill [3] (sIf (mOr (mT (mOp (inOwnD 1 f_m_Log_ddcontains true) (mV 1) (mV 0))) (mNot (mTr (mPos f_d_is_first (mCons (mV 0) (mCons (mV 1) (mCons (mV 3) mNil)))))))
    (sRet (mC (D.bl false)))
    sNx))
    (sSeq (sKill [1] (sAsg 4 (mPos f_d_faults_of (mCons (mFld 1 "network" (mV 0)) (mCons (mV 1) mNil)))))
    (sSeq (sFrz 4 (sKill [0] (sFor (mItems' (mP (mV 4))) (tgTup 2 (tgCons (tgN 5) (tgCons (tgN 6) tgNil))) l1_d_explains)))
    (sRet (mOp leD (mCall lenD (mCons (mV 4) mNil)) (mV 2)))))))
def f_d_explains : List D → Option (D × Ev) := runF 4 7 b_d_explains
/- 0 _law_case_here, 1 _law_table, 2 _law_name -/
def l1_d_law_is_table : SM :=
    (sKill [2] (sIf (mOr (mNot (mTr (mPos f_d_law_is_integer (mCons (mOp subscr (mV 1) (mV 2)) mNil)))) (mNot (mT (mCh leD leD (mC (D.int 0)) (mOp subscr (mV 1) (mV 2)) (mOp subscr (mV 0) (mC (D.int 0)))))))
    (sRet (mC (D.bl false)))
    sNx))
def b_d_law_is_table : SM :=
    (sSeq (sIf (mOr (mNot (mTr (mIsi "dict" (mV 1)))) (mT (mOp neD (mCall lstD (mCons (mV 1) mNil)) (mOp subscr (mV 0) (mC (D.int 1))))))
    (sRet (mC (D.bl false)))
    sNx)
    (sSeq (sKill [0, 1] (sFor (mItems' (mP (mOp subscr (mV 0) (mC (D.int 1))))) (tgN 2) l1_d_law_is_table))
    (sRet (mC (D.bl true)))))
def f_d_law_is_table : List D → Option (D × Ev) := runF 2 3 b_d_law_is_table
/- 0 network, 1 own, 2 name -/
def l1_d_check_own : SM :=
    (sSeq (sIf (mT (mOp (inOwnD 0 f_m_Network_ddcontains true) (mV 2) (mV 0)))
    (fun _ => none)
    sNx)
    (sKill [2] (sIf (mNot (mT (mCh leD leD (mC (D.int 0)) (mOp subscr (mV 1) (mV 2)) (mFld 0 "dawn" (mV 0)))))
    (fun _ => none)
    sNx)))
def b_d_check_own : SM :=
    (sKill [0, 1] (sFor (mItems' (mP (mV 1))) (tgN 2) l1_d_check_own))
def f_d_check_own : List D → Option (D × Ev) := runF 2 3 b_d_check_own
/- 0 network, 1 lateness, 2 seen, 3 viewer, 4 least, 5 most, 6 pair, 7 late, 8 limit -/
def l1_d_check_lateness : SM :=
    (sSeq (sKill [2, 3] (sAsg 6 (mTup (mCons (mP (mV 2)) (mCons (mP (mV 3)) mNil)))))
    (sSeq (sIf (mT (mOp ninD (mV 6) (mV 1)))
    (fun _ => none)
    sNx)
    (sSeq (sAsg 7 (mP (mOp subscr (mV 1) (mV 6))))
    (sKill [7, 4, 8, 5, 6] (sIf (mT (mOp isND (mV 7) (mC D.non)))
    (sIf (mT (mOp notND (mV 5) (mC D.non)))
    (fun _ => none)
    sNx)
    (sSeq (sAsg 8 (mIf (mT (mOp isND (mV 5) (mC D.non))) (mC (D.int 9999)) (mP (mV 5))))
    (sIf (mNot (mT (mCh leD leD (mV 4) (mV 7) (mV 8))))
    (fun _ => none)
    sNx)))))))
def b_d_check_lateness : SM :=
    (sKill [1, 0] (sFor (mItems' (mPos f_m_Network_lines (mRecv 0 "lines" (mV 0) mNil))) (tgTup 4 (tgCons (tgN 2) (tgCons (tgN 3) (tgCons (tgN 4) (tgCons (tgN 5) tgNil))))) l1_d_check_lateness))
def f_d_check_lateness : List D → Option (D × Ev) := runF 2 9 b_d_check_lateness
/- 0 network, 1 lateness, 2 table, 3 name, 4 moment, 5 dim, 6 seen, 7 least, 8 most, 9 late -/
def l1_d_moment_seen : SM :=
    (sKill [7] (sSeq (sAsg 9 (mP (mOp subscr (mV 1) (mTup (mCons (mP (mV 6)) (mCons (mP (mV 3)) mNil))))))
    (sSeq (sIf (mAnd (mT (mOp notND (mV 9) (mC D.non))) (mT (mOp isND (mV 8) (mC D.non))))
    (sEff (bMeth1 (pN 5) (mOp addD (mOp subscr (mV 2) (mV 6)) (mV 9)) opAppend))
    sNx)
    (sKill [9, 8, 6] (sIf (mT (mOp notND (mV 8) (mC D.non)))
    (sAsg 4 (mCall minD (mCons (mV 4) (mCons (mOp addD (mOp subscr (mV 2) (mV 6)) (mV 9)) mNil))))
    sNx)))))
def b_d_moment_seen : SM :=
    (sSeq (sAsg 4 (mP (mFld 0 "dawn" (mV 0))))
    (sSeq (sAsg 5 (mLst mNil))
    (sSeq (sKill [1, 2] (sFor (mItems' (mPos f_m_Network_lines_to (mRecv 0 "lines_to" (mV 0) (mCons (mV 3) mNil)))) (tgTup 3 (tgCons (tgN 6) (tgCons (tgN 7) (tgCons (tgN 8) tgNil)))) l1_d_moment_seen))
    (sSeq (sKill [5, 3, 0] (sIf (mT (mOp geD (mCall lenD (mCons (mV 5) mNil)) (mPos f_m_Network_need_of (mRecv 0 "need_of" (mV 0) (mCons (mV 3) mNil)))))
    (sAsg 4 (mCall minD (mCons (mV 4) (mCons (mOp subscr (mCall sortedD (mCons (mV 5) mNil)) (mOp subD (mPos f_m_Network_need_of (mRecv 0 "need_of" (mV 0) (mCons (mV 3) mNil))) (mC (D.int 1)))) mNil))))
    sNx))
    (sRetV 4)))))
def f_d_moment_seen : List D → Option (D × Ev) := runF 4 10 b_d_moment_seen
/- 0 network, 1 lateness, 2 own, 3 table, 4 turn, 5 name -/
def c1_d_replay : Ev → D → Option (Option (Key × D)) :=
    dcItem (tgN 5) mYes (mV 5) (mP (mGet2 (mV 2) (mV 5) (mFld 0 "dawn" (mV 0))))
def l2_d_replay : SM :=
    (sKill [5] (sIf (mT (mOp ninD (mV 5) (mV 2)))
    (sPut (pN 3) (mV 5) (mPos f_d_moment_seen (mCons (mV 0) (mCons (mV 1) (mCons (mV 3) (mCons (mV 5) mNil))))))
    sNx))
def l3_d_replay : SM :=
    (sKill [4] (sFor (mOwnIt 0 "names" (mP (mV 0))) (tgN 5) l2_d_replay))
def b_d_replay : SM :=
    (sSeq (sExp (mPos f_d_check_own (mCons (mV 0) (mCons (mV 2) mNil))))
    (sSeq (sExp (mPos f_d_check_lateness (mCons (mV 0) (mCons (mV 1) mNil))))
    (sSeq (sAsg 3 (mDcN (mOwnIt 0 "names" (mP (mV 0))) c1_d_replay [5]))
    (sSeq (sKill [1, 0, 2] (sFor (mRng1 (mCons (mCall (lenF 0 "names") (mCons (mV 0) mNil)) mNil)) (tgN 4) l3_d_replay))
    (sRetV 3)))))
def f_d_replay : List D → Option (D × Ev) := runF 3 6 b_d_replay
/- 0 log, 1 faults, 2 names, 3 name -/
def c1_d_untrusted_after : Ev → D → Option (Option D) :=
    lcItem (tgN 3) mYes (mP (mV 3))
def c2_d_untrusted_after : Ev → D → Option (Option D) :=
    lcItem (tgN 3) (mNot (mTr (mPos f_m_Log_is_trusted (mRecv 1 "is_trusted" (mV 0) (mCons (mV 3) mNil))))) (mP (mV 3))
def b_d_untrusted_after : SM :=
    (sSeq (sAsg 2 (mLcN (mOwnIt 0 "names" (mP (mFld 1 "network" (mV 0)))) c1_d_untrusted_after [3]))
    (sSeq (sKill [1] (sIf (mTr (mV 1))
    (sAsg 2 (mSl (mV 2) (mOSome (mOp addD (mOp indexD (mV 2) (mOp subscr (mOp subscr (mV 1) (mNeg (mC (D.int 1)))) (mC (D.int 0)))) (mC (D.int 1)))) mONone))
    sNx))
    (sFrz 2 (sRet (mLcN (mItems' (mP (mV 2))) c2_d_untrusted_after [3])))))
def f_d_untrusted_after : List D → Option (D × Ev) := runF 2 4 b_d_untrusted_after
/- 0 log, 1 most, 2 found, 3 shorter, 4 size, 5 longer, 6 faults, 7 name, 8 kind -/
def l1_d_fault_sets : SM :=
    (sKill [8] (sEff (bMeth1 (pN 5) (mOp addD (mV 6) (mLst (mCons (mTup (mCons (mP (mV 7)) (mCons (mP (mV 8)) mNil))) mNil))) opAppend)))
def l2_d_fault_sets : SM :=
    (sKill [7] (sFor (mItems' (mC (D.ktup [D.str "err", D.str "sleep"]))) (tgN 8) l1_d_fault_sets))
def l3_d_fault_sets : SM :=
    (sKill [6] (sFor (mItems' (mPos f_d_untrusted_after (mCons (mV 0) (mCons (mV 6) mNil)))) (tgN 7) l2_d_fault_sets))
def l4_d_fault_sets : SM :=
    (sKill [4] (sSeq (sAsg 5 (mLst mNil))
    (sSeq (sFrz 3 (sKill [3] (sFor (mItems' (mP (mV 3))) (tgN 6) l3_d_fault_sets)))
    (sSeq (sEff (bMeth1 (pN 2) (mV 5) opExtend))
    (sKill [5] (sAsg 3 (mCall lstD (mCons (mV 5) mNil))))))))
def b_d_fault_sets : SM :=
    (sSeq (sAsg 2 (mLst (mCons (mLst mNil) mNil)))
    (sSeq (sAsg 3 (mLst (mCons (mLst mNil) mNil)))
    (sSeq (sKill [0, 1, 3] (sFor (mRng1 (mCons (mV 1) mNil)) (tgN 4) l4_d_fault_sets))
    (sRetV 2))))
def f_d_fault_sets : List D → Option (D × Ev) := runF 2 9 b_d_fault_sets
/- 0 _law_found_here -/
def b_d_law_is_integer_v2 : SM :=
    (sRet (mAndV (mIsi "int" (mV 0)) (mNotV (mIsi "bool" (mV 0)))))
def f_d_law_is_integer_v2 : List D → Option (D × Ev) := runF 1 1 b_d_law_is_integer_v2
/- 0 _law_found_here, 1 _law_window -/
def b_d_law_is_window_v2 : SM :=
    (sSeq (sIf (mOr (mNot (mTr (mIsi "tuple" (mV 0)))) (mT (mOp neD (mCall lenD (mCons (mV 0) mNil)) (mC (D.int 2)))))
    (sRet (mC (D.bl false)))
    sNx)
    (sSeq (sIf (mOr (mNot (mTr (mPos f_d_law_is_integer_v2 (mCons (mOp subscr (mV 0) (mC (D.int 0))) mNil)))) (mNot (mTr (mPos f_d_law_is_integer_v2 (mCons (mOp subscr (mV 0) (mC (D.int 1))) mNil)))))
    (sRet (mC (D.bl false)))
    sNx)
    (sRet (mAndV (mOp eqD (mOp subscr (mV 0) (mC (D.int 0))) (mOp subscr (mV 1) (mC (D.int 0)))) (mOp eqD (mOp subscr (mV 0) (mC (D.int 1))) (mOp subscr (mV 1) (mC (D.int 1))))))))
def f_d_law_is_window_v2 : List D → Option (D × Ev) := runF 2 2 b_d_law_is_window_v2
/- 0 _law_names_here, 1 _law_pool, 2 _law_digit, 3 _law_kind -/
def b_d_law_fault : SM :=
    (sSeq (sAsg 3 (mP (mOp subscr (mLst (mCons (mC (D.str "err")) (mCons (mC (D.str "sleep")) mNil))) (mOp modD (mCall intD (mCons (mV 2) mNil)) (mC (D.int 2))))))
    (sSeq (sIf (mOr (mT (mOp eqD (mV 1) (mC (D.int 0)))) (mT (mOp eqD (mOp modD (mOp fdivD (mCall intD (mCons (mV 2) mNil)) (mC (D.int 2))) (mC (D.int 16))) (mC (D.int 0)))))
    (sFrz 3 (sRet (mTup (mCons (mC (D.str "A")) (mCons (mP (mV 3)) mNil)))))
    sNx)
    (sFrz 3 (sRet (mTup (mCons (mP (mOp subscr (mV 0) (mOp modD (mOp fdivD (mCall intD (mCons (mV 2) mNil)) (mC (D.int 32))) (mV 1)))) (mCons (mP (mV 3)) mNil)))))))
def f_d_law_fault : List D → Option (D × Ev) := runF 3 4 b_d_law_fault
/- 0 _law_names_here, 1 _law_script, 2 _law_choices, 3 _law_pool, 4 _law_lists_here, 5 _law_k, 6 _law_row_here, 7 _law_size, 8 _law_j -/
def c1_d_law_lists : Ev → D → Option (Option D) :=
    lcItem (tgN 8) mYes (mPos f_d_law_fault (mCons (mV 0) (mCons (mV 3) (mCons (mOp subscr (mV 6) (mOp addD (mC (D.int 1)) (mV 8))) mNil))))
def l2_d_law_lists : SM :=
    (sSeq (sAsg 6 (mPos f_d_law_row (mCons (mOp addD (mPos f_d_law_cell (mCons (mV 1) (mCons (mOp addD (mC (D.int 4)) (mV 5)) mNil))) (mV 5)) (mCons (mC (D.int 7)) mNil))))
    (sSeq (sAsg 7 (mOp addD (mC (D.int 1)) (mOp modD (mCall intD (mCons (mOp subscr (mV 6) (mC (D.int 0))) mNil)) (mC (D.int 6)))))
    (sSeq (sKill [5] (sIf (mAnd (mT (mOp eqD (mOp modD (mCall intD (mCons (mOp subscr (mV 2) (mC (D.int 2))) mNil)) (mC (D.int 8))) (mC (D.int 0)))) (mT (mOp eqD (mV 5) (mOp modD (mCall intD (mCons (mOp subscr (mV 2) (mC (D.int 3))) mNil)) (mC (D.int 5))))))
    (sAsg 7 (mC (D.int 0)))
    sNx))
    (sKill [6, 7] (sEff (bMeth1 (pN 4) (mLcN (mRng1 (mCons (mV 7) mNil)) c1_d_law_lists [8]) opAppend))))))
def b_d_law_lists : SM :=
    (sSeq (sAsg 3 (mCall lenD (mCons (mV 0) mNil)))
    (sSeq (sIf (mT (mOp eqD (mOp modD (mCall intD (mCons (mOp subscr (mV 2) (mC (D.int 0))) mNil)) (mC (D.int 2))) (mC (D.int 1))))
    (sFrz 3 (sAsg 3 (mCall minD (mCons (mLst (mCons (mC (D.int 3)) (mCons (mP (mV 3)) mNil))) mNil))))
    sNx)
    (sSeq (sAsg 4 (mLst mNil))
    (sSeq (sKill [2, 0, 3, 1] (sFor (mRng1 (mCons (mOp modD (mCall intD (mCons (mOp subscr (mV 2) (mC (D.int 1))) mNil)) (mC (D.int 6))) mNil)) (tgN 5) l2_d_law_lists))
    (sRetV 4)))))
def f_d_law_lists : List D → Option (D × Ev) := runF 3 9 b_d_law_lists
/- 0 _law_names_here, 1 _law_limit, 2 _law_sets_here, 3 _law_last, 4 _law_size, 5 _law_longer, 6 _law_pair, 7 _law_k, 8 _law_kind -/
def l1_d_law_sets_v2 : SM :=
    (sKill [8] (sEff (bMeth1 (pN 5) (mLst (mCons (mOp addD (mV 7) (mC (D.int 1))) (mCons (mOp addD (mOp subscr (mV 6) (mC (D.int 1))) (mLst (mCons (mTup (mCons (mP (mOp subscr (mV 0) (mV 7))) (mCons (mP (mV 8)) mNil))) mNil))) mNil))) opAppend)))
def l2_d_law_sets_v2 : SM :=
    (sKill [7] (sFor (mItems' (mLst (mCons (mC (D.str "err")) (mCons (mC (D.str "sleep")) mNil)))) (tgN 8) l1_d_law_sets_v2))
def l3_d_law_sets_v2 : SM :=
    (sKill [6] (sFor (mRng2 (mCons (mOp subscr (mV 6) (mC (D.int 0))) (mCons (mCall lenD (mCons (mV 0) mNil)) mNil))) (tgN 7) l2_d_law_sets_v2))
def l4_d_law_sets_v2 : SM :=
    (sKill [6] (sEff (bMeth1 (pN 2) (mP (mOp subscr (mV 6) (mC (D.int 1)))) opAppend)))
def l5_d_law_sets_v2 : SM :=
    (sKill [4] (sSeq (sAsg 5 (mLst mNil))
    (sSeq (sFrz 3 (sKill [3] (sFor (mItems' (mP (mV 3))) (tgN 6) l3_d_law_sets_v2)))
    (sSeq (sFrz 5 (sFor (mItems' (mP (mV 5))) (tgN 6) l4_d_law_sets_v2))
    (sKill [5] (sAsg 3 (mCall lstD (mCons (mV 5) mNil))))))))
def b_d_law_sets_v2 : SM :=
    (sSeq (sAsg 2 (mLst (mCons (mLst mNil) mNil)))
    (sSeq (sAsg 3 (mLst (mCons (mLst (mCons (mC (D.int 0)) (mCons (mLst mNil) mNil))) mNil)))
    (sSeq (sKill [3, 1, 0] (sFor (mRng1 (mCons (mV 1) mNil)) (tgN 4) l5_d_law_sets_v2))
    (sRetV 2))))
def f_d_law_sets_v2 : List D → Option (D × Ev) := runF 2 9 b_d_law_sets_v2
/- 0 _law_faults, 1 _law_named, 2 _law_listed, 3 _law_hit, 4 _law_fault_here -/
def l1_d_law_hits_all_v2 : SM :=
    (sKill [4] (sIf (mT (mOp inD (mV 4) (mV 2)))
    (sAsg 3 (mC (D.bl true)))
    sNx))
def l2_d_law_hits_all_v2 : SM :=
    (sSeq (sAsg 3 (mC (D.bl false)))
    (sSeq (sKill [2] (sFor (mItems' (mP (mV 0))) (tgN 4) l1_d_law_hits_all_v2))
    (sKill [3] (sIf (mNot (mTr (mV 3)))
    (sRet (mC (D.bl false)))
    sNx))))
def b_d_law_hits_all_v2 : SM :=
    (sSeq (sKill [0, 1] (sFor (mItems' (mP (mV 1))) (tgN 2) l2_d_law_hits_all_v2))
    (sRet (mC (D.bl true))))
def f_d_law_hits_all_v2 : List D → Option (D × Ev) := runF 2 5 b_d_law_hits_all_v2
/- 0 faults, 1 listed, 2 fault -/
def l1_d_hits : SM :=
    (sKill [2] (sIf (mT (mOp inD (mV 2) (mV 1)))
    (sRet (mC (D.bl true)))
    sNx))
def b_d_hits : SM :=
    (sSeq (sKill [0, 1] (sFor (mItems' (mP (mV 0))) (tgN 2) l1_d_hits))
    (sRet (mC (D.bl false))))
def f_d_hits : List D → Option (D × Ev) := runF 2 3 b_d_hits
/- 0 faults, 1 named, 2 listed -/
def l1_d_hits_each : SM :=
    (sKill [2] (sIf (mNot (mTr (mPos f_d_hits (mCons (mV 0) (mCons (mV 2) mNil)))))
    (sRet (mC (D.bl false)))
    sNx))
def b_d_hits_each : SM :=
    (sSeq (sKill [0, 1] (sFor (mItems' (mP (mV 1))) (tgN 2) l1_d_hits_each))
    (sRet (mC (D.bl true))))
def f_d_hits_each : List D → Option (D × Ev) := runF 2 3 b_d_hits_each
/- 0 log, 1 named, 2 most, 3 faults -/
def l1_d_first_hitting : SM :=
    (sKill [3] (sIf (mTr (mPos f_d_hits_each (mCons (mV 3) (mCons (mV 1) mNil))))
    (sRetV 3)
    sNx))
def b_d_first_hitting : SM :=
    (sSeq (sKill [0, 2, 1] (sFor (mItems' (mPure f_d_fault_sets [.p 0, .k 0] [] (mCons (mV 0) mNil) (mCons (mV 2) mNil))) (tgN 3) l1_d_first_hitting))
    (sRet (mC D.non)))
def f_d_first_hitting : List D → Option (D × Ev) := runF 3 4 b_d_first_hitting
/- 0 faults, 1 part, 2 fault -/
def l1_d_contains : SM :=
    (sKill [2] (sIf (mT (mOp ninD (mV 2) (mV 0)))
    (sRet (mC (D.bl false)))
    sNx))
def b_d_contains : SM :=
    (sSeq (sKill [0, 1] (sFor (mItems' (mP (mV 1))) (tgN 2) l1_d_contains))
    (sRet (mC (D.bl true))))
def f_d_contains : List D → Option (D × Ev) := runF 2 3 b_d_contains
/- 0 log, 1 named, 2 most, 3 found, 4 faults, 5 part -/
def c1_d_minimal_hitting : Ev → D → Option (Option D) :=
    lcItem (tgN 5) mYes (mPos f_d_contains (mCons (mV 4) (mCons (mV 5) mNil)))
def l2_d_minimal_hitting : SM :=
    (sFrz 3 (sKill [4] (sIf (mAnd (mTr (mPos f_d_hits_each (mCons (mV 4) (mCons (mV 1) mNil)))) (mNot (mTr (mCall anyD (mCons (mLcN (mItems' (mP (mV 3))) c1_d_minimal_hitting [5]) mNil)))))
    (sEff (bMeth1 (pN 3) (mP (mV 4)) opAppend))
    sNx)))
def b_d_minimal_hitting : SM :=
    (sSeq (sAsg 3 (mLst mNil))
    (sSeq (sKill [0, 2, 1] (sFor (mItems' (mPure f_d_fault_sets [.p 0, .k 0] [] (mCons (mV 0) mNil) (mCons (mV 2) mNil))) (tgN 4) l2_d_minimal_hitting))
    (sRetV 3)))
def f_d_minimal_hitting : List D → Option (D × Ev) := runF 3 6 b_d_minimal_hitting
/- 0 _law_cell_here, 1 _law_count, 2 _law_row_here, 3 _law_rest, 4 _law_mixed, 5 _law_k -/
def l1_d_law_row_v2 : SM :=
    (sKill [5] (sIf (mT (mOp ltD (mCall absD (mCons (mV 0) mNil)) (mOp powD (mC (D.int 10)) (mC (D.int 18)))))
    (sSeq (sAsg 4 (mOp modD (mCall intD (mCons (mOp addD (mOp mulD (mV 4) (mOp addD (mC (D.int 16807)) (mOp modD (mCall absD (mCons (mV 0) mNil)) (mC (D.int 1000))))) (mC (D.int 40692))) mNil)) (mC (D.int 2147483399))))
    (sEff (bMeth1 (pN 2) (mOp modD (mOp fdivD (mV 4) (mC (D.int 11))) (mC (D.int 1000))) opAppend)))
    (sSeq (sEff (bMeth1 (pN 2) (mOp modD (mCall intD (mCons (mV 3) mNil)) (mC (D.int 1000))) opAppend))
    (sAsg 3 (mOp fdivD (mV 3) (mC (D.int 1000)))))))
def b_d_law_row_v2 : SM :=
    (sSeq (sAsg 2 (mLst mNil))
    (sSeq (sAsg 3 (mCall absD (mCons (mV 0) mNil)))
    (sSeq (sAsg 4 (mOp modD (mCall intD (mCons (mOp addD (mOp mulD (mV 0) (mC (D.int 48271))) (mC (D.int 7655))) mNil)) (mC (D.int 2147483647))))
    (sSeq (sKill [0, 1, 4, 3] (sFor (mRng1 (mCons (mV 1) mNil)) (tgN 5) l1_d_law_row_v2))
    (sRetV 2)))))
def f_d_law_row_v2 : List D → Option (D × Ev) := runF 2 6 b_d_law_row_v2
/- 0 _law_case_here, 1 _law_row_here, 2 _law_reach, 3 _law_lines, 4 _law_k, 5 _law_line, 6 _law_shortest, 7 _law_longest -/
def l1_d_law_stretched : SM :=
    (sSeq (sAsg 5 (mP (mOp subscr (mOp subscr (mV 0) (mC (D.int 4))) (mV 4))))
    (sSeq (sAsg 6 (mOp addD (mC (D.int 1)) (mOp modD (mCall intD (mCons (mOp subscr (mV 1) (mV 4)) mNil)) (mV 2))))
    (sSeq (sAsg 7 (mP (mOp subscr (mV 5) (mC (D.int 3)))))
    (sSeq (sKill [4] (sIf (mT (mOp notND (mV 7) (mC D.non)))
    (sFrz 2 (sAsg 7 (mOp addD (mV 6) (mOp modD (mCall intD (mCons (mOp subscr (mV 1) (mOp addD (mC (D.int 20)) (mV 4))) mNil)) (mCall minD (mCons (mLst (mCons (mP (mV 2)) (mCons (mOp subD (mC (D.int 1000)) (mV 6)) mNil))) mNil))))))
    sNx))
    (sFrz 7 (sKill [5, 7, 6] (sEff (bMeth1 (pN 3) (mLst (mCons (mP (mOp subscr (mV 5) (mC (D.int 0)))) (mCons (mP (mOp subscr (mV 5) (mC (D.int 1)))) (mCons (mP (mV 6)) (mCons (mP (mV 7)) mNil))))) opAppend))))))))
def b_d_law_stretched : SM :=
    (sSeq (sIf (mT (mOp neD (mOp modD (mCall intD (mCons (mOp subscr (mV 1) (mC (D.int 40))) mNil)) (mC (D.int 3))) (mC (D.int 1))))
    (sRet (mP (mV 0)))
    sNx)
    (sSeq (sAsg 2 (mP (mOp subscr (mLst (mCons (mP (mOp subscr (mV 0) (mC (D.int 0)))) (mCons (mC (D.int 999)) mNil))) (mOp modD (mCall intD (mCons (mOp subscr (mV 1) (mC (D.int 41))) mNil)) (mC (D.int 2))))))
    (sSeq (sAsg 3 (mLst mNil))
    (sSeq (sKill [2, 1] (sFor (mRng1 (mCons (mCall lenD (mCons (mOp subscr (mV 0) (mC (D.int 4))) mNil)) mNil)) (tgN 4) l1_d_law_stretched))
    (sFrz 3 (sRet (mLst (mCons (mP (mOp subscr (mV 0) (mC (D.int 0)))) (mCons (mP (mOp subscr (mV 0) (mC (D.int 1)))) (mCons (mP (mOp subscr (mV 0) (mC (D.int 2)))) (mCons (mP (mOp subscr (mV 0) (mC (D.int 3)))) (mCons (mP (mV 3)) mNil))))))))))))
def f_d_law_stretched : List D → Option (D × Ev) := runF 2 8 b_d_law_stretched
/- 0 _law_case_here, 1 _law_row_here, 2 _law_names_here, 3 _law_start, 4 _law_lookouts, 5 _law_needs, 6 _law_lines, 7 _law_k, 8 _law_pair, 9 _law_shortest -/
def c1_d_law_path : Ev → D → Option (Option D) :=
    lcItem (tgN 7) mYes (mOp eqD (mOp modD (mCall intD (mCons (mOp subscr (mV 1) (mOp addD (mC (D.int 35)) (mV 7))) mNil)) (mC (D.int 6))) (mC (D.int 0)))
def c2_d_law_path : Ev → D → Option (Option D) :=
    lcItem (tgN 7) mYes (mOp addD (mC (D.int 1)) (mOp modD (mOp fdivD (mCall intD (mCons (mOp subscr (mV 1) (mOp addD (mC (D.int 35)) (mV 7))) mNil)) (mC (D.int 6))) (mC (D.int 4))))
def l3_d_law_path : SM :=
    (sSeq (sAsg 8 (mLst (mCons (mP (mOp subscr (mV 2) (mV 7))) (mCons (mP (mOp subscr (mV 2) (mOp addD (mV 7) (mC (D.int 1))))) mNil))))
    (sSeq (sIf (mT (mOp eqD (mV 3) (mC (D.int 4))))
    (sAsg 8 (mLst (mCons (mP (mOp subscr (mV 2) (mOp addD (mV 7) (mC (D.int 1))))) (mCons (mP (mOp subscr (mV 2) (mV 7))) mNil))))
    sNx)
    (sSeq (sAsg 9 (mOp addD (mC (D.int 1)) (mOp modD (mCall intD (mCons (mOp subscr (mV 1) (mOp addD (mC (D.int 41)) (mV 7))) mNil)) (mC (D.int 5)))))
    (sKill [7, 8, 9] (sEff (bMeth1 (pN 6) (mLst (mCons (mP (mOp subscr (mV 8) (mC (D.int 0)))) (mCons (mP (mOp subscr (mV 8) (mC (D.int 1)))) (mCons (mP (mV 9)) (mCons (mOp addD (mV 9) (mOp modD (mOp fdivD (mCall intD (mCons (mOp subscr (mV 1) (mOp addD (mC (D.int 41)) (mV 7))) mNil)) (mC (D.int 5))) (mC (D.int 7)))) mNil))))) opAppend))))))
def b_d_law_path : SM :=
    (sSeq (sIf (mT (mOp gtD (mOp modD (mCall intD (mCons (mOp subscr (mV 1) (mC (D.int 40))) mNil)) (mC (D.int 3))) (mC (D.int 0))))
    (sRet (mPos f_d_law_stretched (mCons (mV 0) (mCons (mV 1) mNil))))
    sNx)
    (sSeq (sAsg 2 (mPos f_d_law_names (mCons (mSl (mV 1) (mOSome (mC (D.int 30))) (mOSome (mC (D.int 35)))) (mCons (mC (D.int 5)) mNil))))
    (sSeq (sAsg 3 (mP (mOp subscr (mLst (mCons (mC (D.int 0)) (mCons (mC (D.int 4)) mNil))) (mOp modD (mOp fdivD (mCall intD (mCons (mOp subscr (mV 1) (mC (D.int 40))) mNil)) (mC (D.int 3))) (mC (D.int 2))))))
    (sSeq (sAsg 4 (mLcN (mRng1 (mCons (mC (D.int 5)) mNil)) c1_d_law_path [7]))
    (sSeq (sPut (pN 4) (mV 3) (mOp gtD (mOp modD (mOp fdivD (mCall intD (mCons (mOp subscr (mV 1) (mC (D.int 40))) mNil)) (mC (D.int 6))) (mC (D.int 4))) (mC (D.int 0))))
    (sSeq (sAsg 5 (mLcN (mRng1 (mCons (mC (D.int 5)) mNil)) c2_d_law_path [7]))
    (sSeq (sAsg 6 (mLst mNil))
    (sSeq (sKill [1, 3] (sFor (mRng1 (mCons (mC (D.int 4)) mNil)) (tgN 7) l3_d_law_path))
    (sFrz 6 (sFrz 5 (sFrz 4 (sFrz 2 (sRet (mLst (mCons (mP (mOp subscr (mV 0) (mC (D.int 0)))) (mCons (mP (mV 2)) (mCons (mP (mV 4)) (mCons (mP (mV 5)) (mCons (mP (mV 6)) mNil)))))))))))))))))))
def f_d_law_path : List D → Option (D × Ev) := runF 2 10 b_d_law_path
/- 0 _law_case_here, 1 _law_row_here, 2 _law_faults, 3 _law_k, 4 _law_digit -/
def l1_d_law_fault_set_v2 : SM :=
    (sSeq (sAsg 4 (mOp modD (mCall intD (mCons (mOp subscr (mV 1) (mV 3)) mNil)) (mC (D.int 4))))
    (sSeq (sIf (mT (mOp eqD (mV 4) (mC (D.int 2))))
    (sEff (bMeth1 (pN 2) (mTup (mCons (mP (mOp subscr (mOp subscr (mV 0) (mC (D.int 1))) (mV 3))) (mCons (mC (D.str "err")) mNil))) opAppend))
    sNx)
    (sKill [4, 3] (sIf (mT (mOp eqD (mV 4) (mC (D.int 3))))
    (sEff (bMeth1 (pN 2) (mTup (mCons (mP (mOp subscr (mOp subscr (mV 0) (mC (D.int 1))) (mV 3))) (mCons (mC (D.str "sleep")) mNil))) opAppend))
    sNx))))
def b_d_law_fault_set_v2 : SM :=
    (sSeq (sAsg 2 (mLst mNil))
    (sSeq (sKill [0, 1] (sFor (mRng1 (mCons (mCall lenD (mCons (mOp subscr (mV 0) (mC (D.int 1))) mNil)) mNil)) (tgN 3) l1_d_law_fault_set_v2))
    (sRetV 2)))
def f_d_law_fault_set_v2 : List D → Option (D × Ev) := runF 2 5 b_d_law_fault_set_v2
/- 0 _law_faults, 1 _law_digit, 2 _law_cut, 3 _law_turned_here -/
def b_d_law_turned : SM :=
    (sSeq (sAsg 2 (mOp modD (mCall intD (mCons (mV 1) mNil)) (mOp addD (mCall lenD (mCons (mV 0) mNil)) (mC (D.int 1)))))
    (sSeq (sKill [2, 0] (sAsg 3 (mOp addD (mSl (mV 0) (mOSome (mV 2)) mONone) (mSl (mV 0) mONone (mOSome (mV 2))))))
    (sSeq (sKill [1] (sIf (mT (mOp eqD (mOp modD (mOp fdivD (mCall intD (mCons (mV 1) mNil)) (mC (D.int 7))) (mC (D.int 2))) (mC (D.int 1))))
    (sFrz 3 (sAsg 3 (fun A => ((mV 3) A).bind revD)))
    sNx))
    (sRetV 3))))
def f_d_law_turned : List D → Option (D × Ev) := runF 2 4 b_d_law_turned
/- 0 _law_case_here, 1 _law_windows_here, 2 _law_faults, 3 _law_found, 4 _law_name, 5 _law_k, 6 _law_floor, 7 _law_reached, 8 _law_line -/
def l1_d_law_tight : SM :=
    (sKill [4] (sIf (mNot (mTr (mPos f_d_law_is_integer (mCons (mOp subscr (mV 3) (mV 4)) mNil))))
    (sRet (mC (D.bl false)))
    sNx))
def l2_d_law_tight : SM :=
    (sKill [8] (sIf (mAnd (mT (mOp eqD (mOp subscr (mV 8) (mC (D.int 0))) (mOp subscr (mOp subscr (mV 0) (mC (D.int 1))) (mV 5)))) (mAnd (mT (mOp notND (mOp subscr (mV 8) (mC (D.int 3))) (mC D.non))) (mT (mOp ninD (mTup (mCons (mP (mOp subscr (mV 8) (mC (D.int 1)))) (mCons (mC (D.str "sleep")) mNil))) (mV 2)))))
    (sSeq (sIf (mT (mOp ltD (mV 6) (mOp subD (mOp subscr (mV 3) (mOp subscr (mV 8) (mC (D.int 1)))) (mOp subscr (mV 8) (mC (D.int 3))))))
    (sRet (mC (D.bl false)))
    sNx)
    (sAsg 7 (mOrV (mV 7) (mOp eqD (mV 6) (mOp subD (mOp subscr (mV 3) (mOp subscr (mV 8) (mC (D.int 1)))) (mOp subscr (mV 8) (mC (D.int 3))))))))
    sNx))
def l3_d_law_tight : SM :=
    (sSeq (sAsg 6 (mP (mOp subscr (mV 3) (mOp subscr (mOp subscr (mV 0) (mC (D.int 1))) (mV 5)))))
    (sSeq (sAsg 7 (mOp eqD (mV 6) (mOp subscr (mOp subscr (mV 1) (mV 5)) (mC (D.int 0)))))
    (sSeq (sIf (mT (mOp ltD (mV 6) (mOp subscr (mOp subscr (mV 1) (mV 5)) (mC (D.int 0)))))
    (sRet (mC (D.bl false)))
    sNx)
    (sSeq (sKill [6, 5] (sFor (mItems' (mP (mOp subscr (mV 0) (mC (D.int 4))))) (tgN 8) l2_d_law_tight))
    (sKill [7] (sIf (mNot (mTr (mV 7)))
    (sRet (mC (D.bl false)))
    sNx))))))
def b_d_law_tight : SM :=
    (sSeq (sIf (mOr (mNot (mTr (mIsi "dict" (mV 3)))) (mT (mOp neD (mCall lstD (mCons (mV 3) mNil)) (mOp subscr (mV 0) (mC (D.int 1))))))
    (sRet (mC (D.bl false)))
    sNx)
    (sSeq (sFor (mItems' (mP (mOp subscr (mV 0) (mC (D.int 1))))) (tgN 4) l1_d_law_tight)
    (sSeq (sKill [0, 2, 3, 1] (sFor (mRng1 (mCons (mCall lenD (mCons (mOp subscr (mV 0) (mC (D.int 1))) mNil)) mNil)) (tgN 5) l3_d_law_tight))
    (sRet (mC (D.bl true))))))
def f_d_law_tight : List D → Option (D × Ev) := runF 4 9 b_d_law_tight
/- 0 _law_case_here, 1 _law_windows_here, 2 _law_trusted, 3 _law_log_here, 4 _law_network_here, 5 _law_k, 6 _law_name, 7 _law_line -/
def c1_d_law_same : Ev → D → Option (Option D) :=
    lcItem (tgN 7) mYes (mTup (mCons (mP (mOp subscr (mV 7) (mC (D.int 0)))) (mCons (mP (mOp subscr (mV 7) (mC (D.int 1)))) (mCons (mP (mOp subscr (mV 7) (mC (D.int 2)))) (mCons (mP (mOp subscr (mV 7) (mC (D.int 3)))) mNil)))))
def l2_d_law_same : SM :=
    (sSeq (sAsg 6 (mP (mOp subscr (mOp subscr (mV 0) (mC (D.int 1))) (mV 5))))
    (sSeq (sIf (mOr (mT (mOp neD (mPos f_m_Log_window (mRecv 1 "window" (mV 3) (mCons (mV 6) mNil))) (mTup (mCons (mP (mOp subscr (mOp subscr (mV 1) (mV 5)) (mC (D.int 0)))) (mCons (mP (mOp subscr (mOp subscr (mV 1) (mV 5)) (mC (D.int 1)))) mNil))))) (mT (mOp neD (mPos f_m_Log_is_trusted (mRecv 1 "is_trusted" (mV 3) (mCons (mV 6) mNil))) (mOp inD (mV 6) (mV 2)))))
    (sRet (mC (D.bl false)))
    sNx)
    (sKill [5, 6] (sIf (mOr (mT (mOp neD (mPos f_m_Network_is_lookout (mRecv 0 "is_lookout" (mV 4) (mCons (mV 6) mNil))) (mOp subscr (mOp subscr (mV 0) (mC (D.int 2))) (mV 5)))) (mT (mOp neD (mPos f_m_Network_need_of (mRecv 0 "need_of" (mV 4) (mCons (mV 6) mNil))) (mOp subscr (mOp subscr (mV 0) (mC (D.int 3))) (mV 5)))))
    (sRet (mC (D.bl false)))
    sNx))))
def b_d_law_same : SM :=
    (sSeq (sAsg 4 (mP (mFld 1 "network" (mV 3))))
    (sSeq (sIf (mOr (mT (mOp neD (mFld 0 "dawn" (mV 4)) (mOp subscr (mV 0) (mC (D.int 0))))) (mT (mOp neD (mCall (lstF 0 "names") (mCons (mV 4) mNil)) (mOp subscr (mV 0) (mC (D.int 1))))))
    (sRet (mC (D.bl false)))
    sNx)
    (sSeq (sIf (mT (mOp neD (mPos f_m_Network_lines (mRecv 0 "lines" (mV 4) mNil)) (mLcN (mItems' (mP (mOp subscr (mV 0) (mC (D.int 4))))) c1_d_law_same [7])))
    (sRet (mC (D.bl false)))
    sNx)
    (sSeq (sKill [0, 3, 4, 2, 1] (sFor (mRng1 (mCons (mCall lenD (mCons (mOp subscr (mV 0) (mC (D.int 1))) mNil)) mNil)) (tgN 5) l2_d_law_same))
    (sRet (mC (D.bl true)))))))
def f_d_law_same : List D → Option (D × Ev) := runF 4 8 b_d_law_same
/- 0 log, 1 kinds, 2 name -/
def b_d_is_free : SM :=
    (sRet (mOrV (mPos f_m_Network_is_lookout (mRecv 0 "is_lookout" (mFld 1 "network" (mV 0)) (mCons (mV 2) mNil))) (mOp eqD (mGet1 (mV 1) (mV 2)) (mC (D.str "err")))))
def f_d_is_free : List D → Option (D × Ev) := runF 3 3 b_d_is_free
/- 0 log, 1 kinds, 2 bounds, 3 network, 4 table, 5 name, 6 turn, 7 moment -/
def l1_d_spread : SM :=
    (sKill [5] (sPut (pN 4) (mV 5) (mP (mIf (mTr (mPos f_d_is_free (mCons (mV 0) (mCons (mV 1) (mCons (mV 5) mNil))))) (mOp subscr (mV 2) (mV 5)) (mFld 0 "dawn" (mV 3))))))
def l2_d_spread : SM :=
    (sKill [7, 5] (sIf (mNot (mTr (mPos f_d_is_free (mCons (mV 0) (mCons (mV 1) (mCons (mV 5) mNil))))))
    (sSeq (sAsg 7 (mPos f_d_moment_along (mCons (mPos f_m_Network_lines_to (mRecv 0 "lines_to" (mV 3) (mCons (mV 5) mNil))) (mCons (mV 4) (mCons (mPos f_m_Network_need_of (mRecv 0 "need_of" (mV 3) (mCons (mV 5) mNil))) (mCons (mFld 0 "dawn" (mV 3)) mNil))))))
    (sPut (pN 4) (mV 5) (mCall maxD (mCons (mOp subscr (mV 2) (mV 5)) (mCons (mV 7) mNil)))))
    sNx))
def l3_d_spread : SM :=
    (sKill [6] (sFrz 3 (sFor (mOwnIt 0 "names" (mP (mV 3))) (tgN 5) l2_d_spread)))
def b_d_spread : SM :=
    (sSeq (sAsg 3 (mP (mFld 1 "network" (mV 0))))
    (sSeq (sAsg 4 (mC (D.dct true [] [])))
    (sSeq (sFrz 3 (sFor (mOwnIt 0 "names" (mP (mV 3))) (tgN 5) l1_d_spread))
    (sSeq (sKill [2, 1, 0, 3] (sFor (mRng1 (mCons (mCall (lenF 0 "names") (mCons (mV 3) mNil)) mNil)) (tgN 6) l3_d_spread))
    (sRetV 4)))))
def f_d_spread : List D → Option (D × Ev) := runF 3 8 b_d_spread
/- 0 floors_found, 1 first, 2 name -/
def c1_d_raise_to_first : Ev → D → Option (Option (Key × D)) :=
    dcItem (tgN 2) mYes (mV 2) (mCall maxD (mCons (mOp subscr (mV 0) (mV 2)) (mCons (mOp subscr (mV 0) (mV 1)) mNil)))
def b_d_raise_to_first : SM :=
    (sSeq (sIf (mT (mOp isND (mV 1) (mC D.non)))
    (sRet (mP (mV 0)))
    sNx)
    (sRet (mDcN (mItems' (mP (mV 0))) c1_d_raise_to_first [2])))
def f_d_raise_to_first : List D → Option (D × Ev) := runF 2 3 b_d_raise_to_first
/- 0 log, 1 faults, 2 first, 3 kinds, 4 bounds -/
def b_d_earliest_table : SM :=
    (sSeq (sIf (mT (mOp notND (mV 2) (mC D.non)))
    (sExp (mPos f_m_Network_need_keeper (mRecv 0 "need_keeper" (mFld 1 "network" (mV 0)) (mCons (mV 2) mNil))))
    sNx)
    (sSeq (sKill [1] (sAsg 3 (mPos f_d_kinds_of (mCons (mV 0) (mCons (mV 1) mNil)))))
    (sSeq (sAsg 4 (mPos f_d_raise_floors (mCons (mV 0) (mCons (mV 3) mNil))))
    (sSeq (sIf (mAnd (mT (mOp notND (mV 2) (mC D.non))) (mNot (mTr (mPos f_d_is_free (mCons (mV 0) (mCons (mV 3) (mCons (mV 2) mNil)))))))
    (sRet (mC D.non))
    sNx)
    (sSeq (sIf (mAnd (mT (mOp notND (mV 2) (mC D.non))) (mT (mOp eqD (mOp subscr (mV 4) (mV 2)) (mFld 0 "dawn" (mFld 1 "network" (mV 0))))))
    (sRet (mC D.non))
    sNx)
    (sRet (mPos f_d_spread (mCons (mV 0) (mCons (mV 3) (mCons (mPos f_d_raise_to_first (mCons (mV 4) (mCons (mV 2) mNil))) mNil))))))))))
def f_d_earliest_table : List D → Option (D × Ev) := runF 3 5 b_d_earliest_table
/- 0 _law_case_here, 1 _law_windows_here, 2 _law_row_here, 3 _law_place -/
def b_d_law_leader : SM :=
    (sSeq (sIf (mOr (mT (mOp eqD (mCall lenD (mCons (mOp subscr (mV 0) (mC (D.int 1))) mNil)) (mC (D.int 0)))) (mT (mOp eqD (mOp modD (mCall intD (mCons (mOp subscr (mV 2) (mC (D.int 10))) mNil)) (mC (D.int 2))) (mC (D.int 0)))))
    (sRet (mC (D.str "")))
    sNx)
    (sSeq (sAsg 3 (mOp modD (mCall intD (mCons (mOp subscr (mV 2) (mC (D.int 11))) mNil)) (mCall lenD (mCons (mOp subscr (mV 0) (mC (D.int 1))) mNil))))
    (sSeq (sKill [2] (sIf (mT (mOp eqD (mOp modD (mCall intD (mCons (mOp subscr (mV 2) (mC (D.int 12))) mNil)) (mC (D.int 4))) (mC (D.int 1))))
    (sPut (pN 1) (mV 3) (mLst (mCons (mP (mOp subscr (mV 0) (mC (D.int 0)))) (mCons (mP (mOp subscr (mV 0) (mC (D.int 0)))) mNil))))
    sNx))
    (sRet (mP (mOp subscr (mOp subscr (mV 0) (mC (D.int 1))) (mV 3)))))))
def f_d_law_leader : List D → Option (D × Ev) := runF 3 4 b_d_law_leader
/- 0 _law_case_here, 1 _law_windows_here, 2 _law_leader_here, 3 _law_bounds, 4 _law_rows, 5 _law_k, 6 _law_name, 7 _law_end -/
def l1_d_law_ends : SM :=
    (sSeq (sAsg 6 (mP (mOp subscr (mOp subscr (mV 0) (mC (D.int 1))) (mV 5))))
    (sSeq (sAsg 7 (mP (mOp subscr (mOp subscr (mV 1) (mV 5)) (mC (D.int 1)))))
    (sSeq (sKill [5] (sIf (mT (mOp eqD (mV 6) (mV 2)))
    (sSeq (sFrz 7 (sAsg 7 (mCall minD (mCons (mLst (mCons (mP (mV 7)) (mCons (mOp subD (mOp subscr (mV 0) (mC (D.int 0))) (mC (D.int 1))) mNil))) mNil))))
    (sIf (mNot (mTr (mOp subscr (mOp subscr (mV 0) (mC (D.int 2))) (mV 5))))
    (sFrz 6 (sEff (bMeth1 (pN 4) (mTup (mCons (mC (D.str "ring")) (mCons (mP (mV 6)) (mCons (mP (mV 6)) (mCons (mP (mOp subscr (mV 3) (mV 6))) mNil))))) opAppend)))
    sNx))
    sNx))
    (sKill [7, 6] (sIf (mT (mOp gtD (mOp subscr (mV 3) (mV 6)) (mV 7)))
    (sFrz 7 (sFrz 6 (sEff (bMeth1 (pN 4) (mTup (mCons (mC (D.str "high")) (mCons (mP (mV 6)) (mCons (mP (mV 6)) (mCons (mP (mV 7)) mNil))))) opAppend))))
    sNx)))))
def b_d_law_ends : SM :=
    (sSeq (sAsg 4 (mLst mNil))
    (sSeq (sKill [3, 0, 2, 1] (sFor (mRng1 (mCons (mCall lenD (mCons (mOp subscr (mV 0) (mC (D.int 1))) mNil)) mNil)) (tgN 5) l1_d_law_ends))
    (sRetV 4)))
def f_d_law_ends : List D → Option (D × Ev) := runF 4 8 b_d_law_ends
/- 0 _law_case_here, 1 _law_seen, 2 _law_viewer, 3 _law_line -/
def l1_d_law_span : SM :=
    (sKill [3] (sIf (mAnd (mT (mOp eqD (mOp subscr (mV 3) (mC (D.int 0))) (mV 1))) (mAnd (mT (mOp eqD (mOp subscr (mV 3) (mC (D.int 1))) (mV 2))) (mT (mOp notND (mOp subscr (mV 3) (mC (D.int 3))) (mC D.non)))))
    (sRet (mP (mOp subscr (mV 3) (mC (D.int 3)))))
    sNx))
def b_d_law_span : SM :=
    (sSeq (sKill [0, 1, 2] (sFor (mItems' (mP (mOp subscr (mV 0) (mC (D.int 4))))) (tgN 3) l1_d_law_span))
    (sRet (mC (D.int 0))))
def f_d_law_span : List D → Option (D × Ev) := runF 3 4 b_d_law_span
/- 0 _law_case_here, 1 _law_windows_here, 2 _law_bounds, 3 _law_row_here, 4 _law_leader_here, 5 _law_place, 6 _law_end, 7 _law_span_here -/
def b_d_law_right : SM :=
    (sSeq (sAsg 5 (mOp indexD (mOp subscr (mV 0) (mC (D.int 1))) (mOp subscr (mV 3) (mC (D.int 1)))))
    (sSeq (sKill [7] (sIf (mT (mOp eqD (mOp subscr (mV 3) (mC (D.int 0))) (mC (D.str "line"))))
    (sSeq (sKill [0] (sAsg 7 (mPos f_d_law_span (mCons (mV 0) (mCons (mOp subscr (mV 3) (mC (D.int 1))) (mCons (mOp subscr (mV 3) (mC (D.int 2))) mNil))))))
    (sRet (mAndV (mOp gtD (mV 7) (mC (D.int 0))) (mOp eqD (mOp subscr (mV 3) (mC (D.int 3))) (mOp subD (mOp subscr (mV 2) (mOp subscr (mV 3) (mC (D.int 2)))) (mV 7))))))
    sNx))
    (sSeq (sIf (mT (mOp eqD (mOp subscr (mV 3) (mC (D.int 0))) (mC (D.str "first"))))
    (sRet (mAndV (mOp neD (mV 4) (mC (D.str ""))) (mAndV (mOp eqD (mOp subscr (mV 3) (mC (D.int 2))) (mV 4)) (mOp eqD (mOp subscr (mV 3) (mC (D.int 3))) (mOp subscr (mV 2) (mOp subscr (mV 3) (mC (D.int 2))))))))
    sNx)
    (sSeq (sIf (mT (mOp neD (mOp subscr (mV 3) (mC (D.int 2))) (mOp subscr (mV 3) (mC (D.int 1)))))
    (sRet (mC (D.bl false)))
    sNx)
    (sSeq (sIf (mT (mOp eqD (mOp subscr (mV 3) (mC (D.int 0))) (mC (D.str "note"))))
    (sRet (mOp eqD (mOp subscr (mV 3) (mC (D.int 3))) (mOp subscr (mOp subscr (mV 1) (mV 5)) (mC (D.int 0)))))
    sNx)
    (sSeq (sIf (mT (mOp eqD (mOp subscr (mV 3) (mC (D.int 0))) (mC (D.str "spread"))))
    (sRet (mAndV (mNotV (mOp subscr (mOp subscr (mV 0) (mC (D.int 2))) (mV 5))) (mCh leD leD (mC (D.int 0)) (mOp subscr (mV 3) (mC (D.int 3))) (mOp subscr (mV 0) (mC (D.int 0))))))
    sNx)
    (sSeq (sIf (mT (mOp eqD (mOp subscr (mV 3) (mC (D.int 0))) (mC (D.str "ring"))))
    (sRet (mAndV (mOp eqD (mOp subscr (mV 3) (mC (D.int 1))) (mV 4)) (mAndV (mNotV (mOp subscr (mOp subscr (mV 0) (mC (D.int 2))) (mV 5))) (mOp eqD (mOp subscr (mV 3) (mC (D.int 3))) (mOp subscr (mV 2) (mOp subscr (mV 3) (mC (D.int 1))))))))
    sNx)
    (sSeq (sKill [5, 1] (sAsg 6 (mP (mOp subscr (mOp subscr (mV 1) (mV 5)) (mC (D.int 1))))))
    (sSeq (sKill [0, 4] (sIf (mT (mOp eqD (mOp subscr (mV 3) (mC (D.int 1))) (mV 4)))
    (sFrz 6 (sAsg 6 (mCall minD (mCons (mLst (mCons (mP (mV 6)) (mCons (mOp subD (mOp subscr (mV 0) (mC (D.int 0))) (mC (D.int 1))) mNil))) mNil))))
    sNx))
    (sRet (mAndV (mOp eqD (mOp subscr (mV 3) (mC (D.int 3))) (mV 6)) (mOp gtD (mOp subscr (mV 2) (mOp subscr (mV 3) (mC (D.int 1)))) (mV 6)))))))))))))
def f_d_law_right : List D → Option (D × Ev) := runF 5 8 b_d_law_right
/- 0 _law_case_here, 1 _law_windows_here, 2 _law_chain_here, 3 _law_leader_here, 4 _law_bounds, 5 _law_name, 6 _law_kinds, 7 _law_part, 8 _law_k, 9 _law_row_here, 10 _law_step -/
def l1_d_law_read_v2 : SM :=
    (sKill [5] (sPut (pN 4) (mV 5) (mC (D.int 0))))
def l2_d_law_read_v2 : SM :=
    (sSeq (sAsg 9 (mP (mOp subscr (mV 2) (mV 8))))
    (sSeq (sIf (mOr (mT (mOp ninD (mOp subscr (mV 9) (mC (D.int 0))) (mV 6))) (mOr (mT (mOp ninD (mOp subscr (mV 9) (mC (D.int 1))) (mOp subscr (mV 0) (mC (D.int 1))))) (mT (mOp ninD (mOp subscr (mV 9) (mC (D.int 2))) (mOp subscr (mV 0) (mC (D.int 1)))))))
    (sRetV 8)
    sNx)
    (sSeq (sAsg 10 (mP (mOp subscr (mLst (mCons (mC (D.int 0)) (mCons (mC (D.int 0)) (mCons (mC (D.int 0)) (mCons (mC (D.int 1)) (mCons (mC (D.int 2)) (mCons (mC (D.int 2)) mNil))))))) (mOp indexD (mV 6) (mOp subscr (mV 9) (mC (D.int 0)))))))
    (sSeq (sKill [8, 7] (sIf (mOr (mT (mOp eqD (mV 7) (mC (D.int 2)))) (mOr (mT (mOp ltD (mV 10) (mV 7))) (mNot (mTr (mPos f_d_law_right (mCons (mV 0) (mCons (mV 1) (mCons (mV 4) (mCons (mV 9) (mCons (mV 3) mNil))))))))))
    (sRetV 8)
    sNx))
    (sSeq (sFrz 10 (sKill [10] (sAsg 7 (mP (mV 10)))))
    (sKill [9] (sIf (mAnd (mT (mOp ltD (mV 7) (mC (D.int 2)))) (mT (mOp ltD (mOp subscr (mV 4) (mOp subscr (mV 9) (mC (D.int 1)))) (mOp subscr (mV 9) (mC (D.int 3))))))
    (sPut (pN 4) (mOp subscr (mV 9) (mC (D.int 1))) (mP (mOp subscr (mV 9) (mC (D.int 3)))))
    sNx)))))))
def l3_d_law_read_v2 : SM :=
    (sSeq (sAsg 9 (mP (mOp subscr (mV 2) (mV 8))))
    (sKill [8, 9] (sIf (mAnd (mT (mOp eqD (mOp subscr (mV 9) (mC (D.int 0))) (mC (D.str "spread")))) (mAnd (mT (mOp gtD (mOp subscr (mV 9) (mC (D.int 3))) (mC (D.int 0)))) (mTr (mPos f_d_law_enough (mCons (mV 0) (mCons (mV 4) (mCons (mOp subscr (mV 9) (mC (D.int 1))) (mCons (mOp subD (mOp subscr (mV 9) (mC (D.int 3))) (mC (D.int 1))) mNil))))))))
    (sRetV 8)
    sNx)))
def b_d_law_read_v2 : SM :=
    (sSeq (sAsg 4 (mC (D.dct true [] [])))
    (sSeq (sFor (mItems' (mP (mOp subscr (mV 0) (mC (D.int 1))))) (tgN 5) l1_d_law_read_v2)
    (sSeq (sAsg 6 (mLst (mCons (mC (D.str "note")) (mCons (mC (D.str "line")) (mCons (mC (D.str "first")) (mCons (mC (D.str "spread")) (mCons (mC (D.str "high")) (mCons (mC (D.str "ring")) mNil))))))))
    (sSeq (sAsg 7 (mC (D.int 0)))
    (sSeq (sKill [6, 3, 1] (sFor (mRng1 (mCons (mCall lenD (mCons (mV 2) mNil)) mNil)) (tgN 8) l2_d_law_read_v2))
    (sSeq (sKill [7] (sIf (mT (mOp ltD (mV 7) (mC (D.int 2))))
    (sRet (mCall lenD (mCons (mV 2) mNil)))
    sNx))
    (sSeq (sKill [4, 0, 2] (sFor (mRng1 (mCons (mCall lenD (mCons (mV 2) mNil)) mNil)) (tgN 8) l3_d_law_read_v2))
    (sRet (mNeg (mC (D.int 1)))))))))))
def f_d_law_read_v2 : List D → Option (D × Ev) := runF 4 11 b_d_law_read_v2
/- 0 _law_found, 1 _law_named_here, 2 _law_fault -/
def l1_d_law_is_faults : SM :=
    (sSeq (sIf (mOr (mNot (mTr (mIsi "tuple" (mV 2)))) (mT (mOp neD (mCall lenD (mCons (mV 2) mNil)) (mC (D.int 2)))))
    (sRet (mC (D.bl false)))
    sNx)
    (sKill [2] (sIf (mOr (mNot (mTr (mIsi "str" (mOp subscr (mV 2) (mC (D.int 0)))))) (mNot (mTr (mIsi "str" (mOp subscr (mV 2) (mC (D.int 1)))))))
    (sRet (mC (D.bl false)))
    sNx)))
def b_d_law_is_faults : SM :=
    (sSeq (sIf (mOr (mNot (mTr (mIsi "list" (mV 0)))) (mT (mOp neD (mCall lenD (mCons (mV 0) mNil)) (mCall lenD (mCons (mV 1) mNil)))))
    (sRet (mC (D.bl false)))
    sNx)
    (sSeq (sFor (mItems' (mP (mV 0))) (tgN 2) l1_d_law_is_faults)
    (sRet (mOp eqD (mV 0) (mV 1)))))
def f_d_law_is_faults : List D → Option (D × Ev) := runF 2 3 b_d_law_is_faults
/- 0 _law_case_here, 1 _law_chain_here, 2 _law_named_here, 3 _law_name, 4 _law_kind, 5 _law_row_here, 6 _law_told -/
def l1_d_law_named : SM :=
    (sSeq (sAsg 6 (mTup (mCons (mC (D.str "")) (mCons (mC (D.str "")) mNil))))
    (sSeq (sIf (mT (mOp eqD (mOp subscr (mV 5) (mC (D.int 0))) (mC (D.str "line"))))
    (sAsg 6 (mTup (mCons (mP (mOp subscr (mV 5) (mC (D.int 2)))) (mCons (mC (D.str "sleep")) mNil))))
    sNx)
    (sSeq (sKill [5] (sIf (mOr (mT (mOp eqD (mOp subscr (mV 5) (mC (D.int 0))) (mC (D.str "spread")))) (mT (mOp eqD (mOp subscr (mV 5) (mC (D.int 0))) (mC (D.str "ring")))))
    (sAsg 6 (mTup (mCons (mP (mOp subscr (mV 5) (mC (D.int 1)))) (mCons (mC (D.str "err")) mNil))))
    sNx))
    (sKill [6] (sIf (mAnd (mT (mOp eqD (mV 6) (mTup (mCons (mP (mV 3)) (mCons (mP (mV 4)) mNil))))) (mT (mOp ninD (mV 6) (mV 2))))
    (sFrz 6 (sEff (bMeth1 (pN 2) (mP (mV 6)) opAppend)))
    sNx)))))
def l2_d_law_named : SM :=
    (sKill [4] (sFor (mItems' (mP (mV 1))) (tgN 5) l1_d_law_named))
def l3_d_law_named : SM :=
    (sKill [3] (sFor (mItems' (mLst (mCons (mC (D.str "err")) (mCons (mC (D.str "sleep")) mNil)))) (tgN 4) l2_d_law_named))
def b_d_law_named : SM :=
    (sSeq (sAsg 2 (mLst mNil))
    (sSeq (sKill [0, 1] (sFor (mItems' (mP (mOp subscr (mV 0) (mC (D.int 1))))) (tgN 3) l3_d_law_named))
    (sRetV 2)))
def f_d_law_named : List D → Option (D × Ev) := runF 2 7 b_d_law_named
/- 0 _law_names_here, 1 _law_text, 2 _law_letter -/
def l1_d_law_stranger_v2 : SM :=
    (sKill [2] (sIf (mT (mOp inD (mV 1) (mV 0)))
    (sAsg 1 (mOp addD (mV 1) (mV 2)))
    sNx))
def b_d_law_stranger_v2 : SM :=
    (sSeq (sKill [0] (sFor (mItems' (mC (D.str "qrstuvwxyz"))) (tgN 2) l1_d_law_stranger_v2))
    (sRet (mP (mV 1))))
def f_d_law_stranger_v2 : List D → Option (D × Ev) := runF 2 3 b_d_law_stranger_v2
/- 0 self, 1 faults, 2 table, 3 chains, 4 chain -/
def c1_m_Verdict_ddinit : Ev → D → Option (Option D) :=
    lcItem (tgN 4) mYes (mCall lstD (mCons (mV 4) mNil))
def b_m_Verdict_ddinit : SM :=
    (sSeq (sKill [1] (sFldS 2 "faults" (pN 0) (mIf (mT (mOp isND (mV 1) (mC D.non))) (mC D.non) (mCall lstD (mCons (mV 1) mNil)))))
    (sSeq (sKill [2] (sFldS 2 "table" (pN 0) (mIf (mT (mOp isND (mV 2) (mC D.non))) (mC D.non) (mCall dictD (mCons (mV 2) mNil)))))
    (sKill [3] (sFldS 2 "chains" (pN 0) (mLcN (mItems' (mP (mV 3))) c1_m_Verdict_ddinit [4])))))
def f_m_Verdict_ddinit : List D → Option (D × Ev) := runF 4 5 b_m_Verdict_ddinit
/- 0 _law_found, 1 _law_named, 2 _law_fault -/
def l1_d_law_is_faults_v2 : SM :=
    (sSeq (sIf (mOr (mNot (mTr (mIsi "tuple" (mV 2)))) (mT (mOp neD (mCall lenD (mCons (mV 2) mNil)) (mC (D.int 2)))))
    (sRet (mC (D.bl false)))
    sNx)
    (sKill [2] (sIf (mOr (mNot (mTr (mIsi "str" (mOp subscr (mV 2) (mC (D.int 0)))))) (mNot (mTr (mIsi "str" (mOp subscr (mV 2) (mC (D.int 1)))))))
    (sRet (mC (D.bl false)))
    sNx)))
def b_d_law_is_faults_v2 : SM :=
    (sSeq (sIf (mOr (mNot (mTr (mIsi "list" (mV 0)))) (mT (mOp neD (mCall lenD (mCons (mV 0) mNil)) (mCall lenD (mCons (mV 1) mNil)))))
    (sRet (mC (D.bl false)))
    sNx)
    (sSeq (sFor (mItems' (mP (mV 0))) (tgN 2) l1_d_law_is_faults_v2)
    (sRet (mOp eqD (mV 0) (mV 1)))))
def f_d_law_is_faults_v2 : List D → Option (D × Ev) := runF 2 3 b_d_law_is_faults_v2
/- 0 network, 1 rows, 2 name, 3 word, 4 seen, 5 viewer, 6 least, 7 most -/
def l1_d_format_network : SM :=
    (sSeq (sAsg 3 (mIf (mTr (mPos f_m_Network_is_lookout (mRecv 0 "is_lookout" (mV 0) (mCons (mV 2) mNil)))) (mC (D.str "lookout")) (mC (D.str "plain"))))
    (sKill [2, 3] (sEff (bMeth1 (pN 1) (mJoined (mCons (mC (D.str "keeper ")) (mCons (mUn fmtD (mV 2)) (mCons (mC (D.str " ")) (mCons (mUn fmtD (mV 3)) (mCons (mC (D.str " ")) (mCons (mUn fmtD (mPos f_m_Network_need_of (mRecv 0 "need_of" (mV 0) (mCons (mV 2) mNil)))) mNil))))))) opAppend))))
def l2_d_format_network : SM :=
    (sSeq (sKill [7] (sAsg 3 (mIf (mT (mOp isND (mV 7) (mC D.non))) (mC (D.str "dim")) (mCall strD (mCons (mV 7) mNil)))))
    (sKill [6, 4, 5, 3] (sEff (bMeth1 (pN 1) (mJoined (mCons (mC (D.str "line ")) (mCons (mUn fmtD (mV 4)) (mCons (mC (D.str " ")) (mCons (mUn fmtD (mV 5)) (mCons (mC (D.str " ")) (mCons (mUn fmtD (mV 6)) (mCons (mC (D.str " ")) (mCons (mUn fmtD (mV 3)) mNil))))))))) opAppend))))
def b_d_format_network : SM :=
    (sSeq (sAsg 1 (mLst (mCons (mJoined (mCons (mC (D.str "dawn ")) (mCons (mUn fmtD (mFld 0 "dawn" (mV 0))) mNil))) mNil)))
    (sSeq (sFor (mOwnIt 0 "names" (mP (mV 0))) (tgN 2) l1_d_format_network)
    (sSeq (sKill [0] (sFor (mItems' (mPos f_m_Network_lines (mRecv 0 "lines" (mV 0) mNil))) (tgTup 4 (tgCons (tgN 4) (tgCons (tgN 5) (tgCons (tgN 6) (tgCons (tgN 7) tgNil))))) l2_d_format_network))
    (sRetV 1))))
def f_d_format_network : List D → Option (D × Ev) := runF 1 8 b_d_format_network
/- 0 _law_case_here, 1 _law_table_here, 2 _law_name -/
def l1_d_law_is_table_v2 : SM :=
    (sKill [2] (sIf (mOr (mNot (mTr (mPos f_d_law_is_integer (mCons (mOp subscr (mV 1) (mV 2)) mNil)))) (mNot (mT (mCh leD leD (mC (D.int 0)) (mOp subscr (mV 1) (mV 2)) (mOp subscr (mV 0) (mC (D.int 0)))))))
    (sRet (mC (D.bl false)))
    sNx))
def b_d_law_is_table_v2 : SM :=
    (sSeq (sIf (mOr (mNot (mTr (mIsi "dict" (mV 1)))) (mT (mOp neD (mCall lstD (mCons (mV 1) mNil)) (mOp subscr (mV 0) (mC (D.int 1))))))
    (sRet (mC (D.bl false)))
    sNx)
    (sSeq (sKill [0, 1] (sFor (mItems' (mP (mOp subscr (mV 0) (mC (D.int 1))))) (tgN 2) l1_d_law_is_table_v2))
    (sRet (mC (D.bl true)))))
def f_d_law_is_table_v2 : List D → Option (D × Ev) := runF 2 3 b_d_law_is_table_v2
/- 0 _law_case_here, 1 _law_table, 2 _law_faults_here, 3 _law_name, 4 _law_kind_here -/
def l1_d_law_faults_v2 : SM :=
    (sSeq (sAsg 4 (mPos f_d_law_kind_v2 (mCons (mV 0) (mCons (mV 1) (mCons (mV 3) mNil)))))
    (sKill [4, 3] (sIf (mT (mOp neD (mV 4) (mC (D.str ""))))
    (sFrz 4 (sEff (bMeth1 (pN 2) (mTup (mCons (mP (mV 3)) (mCons (mP (mV 4)) mNil))) opAppend)))
    sNx)))
def b_d_law_faults_v2 : SM :=
    (sSeq (sAsg 2 (mLst mNil))
    (sSeq (sKill [0, 1] (sFor (mItems' (mP (mOp subscr (mV 0) (mC (D.int 1))))) (tgN 3) l1_d_law_faults_v2))
    (sRetV 2)))
def f_d_law_faults_v2 : List D → Option (D × Ev) := runF 2 5 b_d_law_faults_v2
/- 0 _law_case_here, 1 _law_tables_here, 2 _law_total, 3 _law_name, 4 _law_number, 5 _law_table, 6 _law_rest -/
def l1_d_law_tables : SM :=
    (sKill [3] (sAsg 2 (mOp mulD (mV 2) (mOp addD (mOp subscr (mV 0) (mC (D.int 0))) (mC (D.int 1))))))
def l2_d_law_tables : SM :=
    (sSeq (sKill [3] (sPut (pN 5) (mV 3) (mOp modD (mCall intD (mCons (mV 6) mNil)) (mOp addD (mOp subscr (mV 0) (mC (D.int 0))) (mC (D.int 1))))))
    (sAsg 6 (mOp fdivD (mV 6) (mOp addD (mOp subscr (mV 0) (mC (D.int 0))) (mC (D.int 1))))))
def l3_d_law_tables : SM :=
    (sSeq (sAsg 5 (mC (D.dct true [] [])))
    (sSeq (sKill [4] (sAsg 6 (mP (mV 4))))
    (sSeq (sKill [6] (sFor (mItems' (mP (mOp subscr (mV 0) (mC (D.int 1))))) (tgN 3) l2_d_law_tables))
    (sFrz 5 (sKill [5] (sEff (bMeth1 (pN 1) (mP (mV 5)) opAppend)))))))
def b_d_law_tables : SM :=
    (sSeq (sAsg 1 (mLst mNil))
    (sSeq (sAsg 2 (mC (D.int 1)))
    (sSeq (sFor (mItems' (mP (mOp subscr (mV 0) (mC (D.int 1))))) (tgN 3) l1_d_law_tables)
    (sSeq (sKill [0, 2] (sFor (mRng1 (mCons (mV 2) mNil)) (tgN 4) l3_d_law_tables))
    (sRetV 1)))))
def f_d_law_tables : List D → Option (D × Ev) := runF 1 7 b_d_law_tables
/- 0 _law_case_here, 1 _law_table, 2 _law_name, 3 _law_other -/
def l1_d_law_is_first_v2 : SM :=
    (sKill [3] (sIf (mT (mOp ltD (mOp subscr (mV 1) (mV 3)) (mOp subscr (mV 1) (mV 2))))
    (sRet (mC (D.bl false)))
    sNx))
def b_d_law_is_first_v2 : SM :=
    (sSeq (sIf (mT (mOp eqD (mV 2) (mC (D.str ""))))
    (sRet (mC (D.bl true)))
    sNx)
    (sSeq (sIf (mT (mOp geD (mOp subscr (mV 1) (mV 2)) (mOp subscr (mV 0) (mC (D.int 0)))))
    (sRet (mC (D.bl false)))
    sNx)
    (sSeq (sKill [0, 2, 1] (sFor (mItems' (mP (mOp subscr (mV 0) (mC (D.int 1))))) (tgN 3) l1_d_law_is_first_v2))
    (sRet (mC (D.bl true))))))
def f_d_law_is_first_v2 : List D → Option (D × Ev) := runF 3 4 b_d_law_is_first_v2
/- 0 _law_case_here, 1 _law_row_here, 2 _law_faults_here, 3 _law_k, 4 _law_digit -/
def l1_d_law_fault_set : SM :=
    (sSeq (sAsg 4 (mOp modD (mCall intD (mCons (mOp subscr (mV 1) (mV 3)) mNil)) (mC (D.int 4))))
    (sSeq (sIf (mT (mOp eqD (mV 4) (mC (D.int 2))))
    (sEff (bMeth1 (pN 2) (mTup (mCons (mP (mOp subscr (mOp subscr (mV 0) (mC (D.int 1))) (mV 3))) (mCons (mC (D.str "err")) mNil))) opAppend))
    sNx)
    (sKill [4, 3] (sIf (mT (mOp eqD (mV 4) (mC (D.int 3))))
    (sEff (bMeth1 (pN 2) (mTup (mCons (mP (mOp subscr (mOp subscr (mV 0) (mC (D.int 1))) (mV 3))) (mCons (mC (D.str "sleep")) mNil))) opAppend))
    sNx))))
def b_d_law_fault_set : SM :=
    (sSeq (sAsg 2 (mLst mNil))
    (sSeq (sKill [0, 1] (sFor (mRng1 (mCons (mCall lenD (mCons (mOp subscr (mV 0) (mC (D.int 1))) mNil)) mNil)) (tgN 3) l1_d_law_fault_set))
    (sRetV 2)))
def f_d_law_fault_set : List D → Option (D × Ev) := runF 2 5 b_d_law_fault_set
/- 0 log, 1 name, 2 first, 3 high -/
def b_d_highest : SM :=
    (sSeq (sAsg 3 (mP (mOp subscr (mPos f_m_Log_window (mRecv 1 "window" (mV 0) (mCons (mV 1) mNil))) (mC (D.int 1)))))
    (sSeq (sKill [2, 0, 1] (sIf (mT (mOp eqD (mV 1) (mV 2)))
    (sRet (mCall minD (mCons (mV 3) (mCons (mOp subD (mFld 0 "dawn" (mFld 1 "network" (mV 0))) (mC (D.int 1))) mNil))))
    sNx))
    (sRetV 3)))
def f_d_highest : List D → Option (D × Ev) := runF 3 4 b_d_highest
/- 0 log, 1 bounds, 2 table, 3 start, 4 todo, 5 grounded, 6 spreading, 7 name, 8 seen, 9 least, 10 most -/
def l1_d_needed : SM :=
    (sKill [10] (sKill [9, 8] (sIf (mT (mOp ltD (mV 9) (mOp subscr (mV 2) (mV 7))))
    (sEff (bMeth1 (pN 4) (mP (mV 8)) opAppend))
    sNx)))
def l2_d_needed : SM :=
    (sSeq (sEffA 7 (bMeth (pN 4) opPop))
    (sSeq (sIf (mOr (mT (mOp inD (mV 7) (mV 5))) (mT (mOp inD (mV 7) (mV 6))))
    (sKillB [9, 10, 7, 8] (fun A => some (.ct A)))
    sNx)
    (sSeq (sIf (mT (mOp eqD (mOp subscr (mV 2) (mV 7)) (mOp subscr (mV 1) (mV 7))))
    (sSeq (sFrz 7 (sKill [7] (sEff (bMeth1 (pN 5) (mP (mV 7)) opAppend))))
    (sKillB [9, 10, 7, 8] (fun A => some (.ct A))))
    sNx)
    (sSeq (sFrz 7 (sEff (bMeth1 (pN 6) (mP (mV 7)) opAppend)))
    (sKill [7] (sFor (mItems' (mPos f_m_Network_lines_to (mRecv 0 "lines_to" (mFld 1 "network" (mV 0)) (mCons (mV 7) mNil)))) (tgTup 3 (tgCons (tgN 8) (tgCons (tgN 9) (tgCons (tgN 10) tgNil)))) l1_d_needed))))))
def b_d_needed : SM :=
    (sSeq (sKill [3] (sAsg 4 (mLst (mCons (mP (mV 3)) mNil))))
    (sSeq (sAsg 5 (mLst mNil))
    (sSeq (sAsg 6 (mLst mNil))
    (sSeq (sKill [1, 0, 2, 4] (whL (mTr (mV 4)) l2_d_needed 1000))
    (sFrz 6 (sFrz 5 (sRet (mTup (mCons (mP (mV 5)) (mCons (mP (mV 6)) mNil))))))))))
def f_d_needed : List D → Option (D × Ev) := runF 4 11 b_d_needed
/- 0 log, 1 kinds, 2 base, 3 name, 4 viewer, 5 span -/
def l1_d_floor_source : SM :=
    (sSeq (sAsg 5 (mPos f_m_Network_lateness (mRecv 0 "lateness" (mFld 1 "network" (mV 0)) (mCons (mV 3) (mCons (mV 4) mNil)))))
    (sKill [5, 4] (sIf (mAnd (mT (mOp notND (mV 5) (mC D.non))) (mAnd (mT (mOp notND (mOp subscr (mV 5) (mC (D.int 1))) (mC D.non))) (mT (mOp neD (mGet1 (mV 1) (mV 4)) (mC (D.str "sleep"))))))
    (sIf (mT (mOp eqD (mOp subD (mOp subscr (mV 2) (mV 4)) (mOp subscr (mV 5) (mC (D.int 1)))) (mOp subscr (mV 2) (mV 3))))
    (sRetV 4)
    sNx)
    sNx)))
def b_d_floor_source : SM :=
    (sSeq (sKill [2, 1, 0] (sFor (mOwnIt 0 "names" (mP (mFld 1 "network" (mV 0)))) (tgN 4) l1_d_floor_source))
    (sRet (mP (mV 3))))
def f_d_floor_source : List D → Option (D × Ev) := runF 4 6 b_d_floor_source
/- 0 _law_faults_here, 1 _law_digit, 2 _law_cut, 3 _law_turned_here -/
def b_d_law_turned_v2 : SM :=
    (sSeq (sAsg 2 (mOp modD (mCall intD (mCons (mV 1) mNil)) (mOp addD (mCall lenD (mCons (mV 0) mNil)) (mC (D.int 1)))))
    (sSeq (sKill [2, 0] (sAsg 3 (mOp addD (mSl (mV 0) (mOSome (mV 2)) mONone) (mSl (mV 0) mONone (mOSome (mV 2))))))
    (sSeq (sKill [1] (sIf (mT (mOp eqD (mOp modD (mOp fdivD (mCall intD (mCons (mV 1) mNil)) (mC (D.int 7))) (mC (D.int 2))) (mC (D.int 1))))
    (sFrz 3 (sAsg 3 (fun A => ((mV 3) A).bind revD)))
    sNx))
    (sRetV 3))))
def f_d_law_turned_v2 : List D → Option (D × Ev) := runF 2 4 b_d_law_turned_v2
/- 0 _law_case_here, 1 _law_windows, 2 _law_trusted, 3 _law_log_here, 4 _law_k, 5 _law_name -/
def l1_d_law_log_v3 : SM :=
    (sKill [4] (sEff (mLendM f_m_Log_note 1 "note" [.p 1, .k 0, .k 1] [] (pN 3) (mCons (mOp subscr (mOp subscr (mV 0) (mC (D.int 1))) (mV 4)) mNil) (mCons (mOp subscr (mOp subscr (mV 1) (mV 4)) (mC (D.int 0))) (mCons (mOp subscr (mOp subscr (mV 1) (mV 4)) (mC (D.int 1))) mNil)))))
def l2_d_law_log_v3 : SM :=
    (sKill [5] (sEff (mLendM f_m_Log_trust 1 "trust" [.p 1] [] (pN 3) (mCons (mV 5) mNil) mNil)))
def b_d_law_log_v3 : SM :=
    (sSeq (sAsg 3 (mMake f_m_Log_ddinit 1 (mCons (mPos f_d_law_network (mCons (mV 0) mNil)) mNil)))
    (sSeq (sKill [0, 1] (sFor (mRng1 (mCons (mCall lenD (mCons (mOp subscr (mV 0) (mC (D.int 1))) mNil)) mNil)) (tgN 4) l1_d_law_log_v3))
    (sSeq (sKill [2] (sFor (mItems' (mP (mV 2))) (tgN 5) l2_d_law_log_v3))
    (sRetV 3))))
def f_d_law_log_v3 : List D → Option (D × Ev) := runF 3 6 b_d_law_log_v3
/- 0 _law_case_here, 1 _law_table_here, 2 _law_name, 3 _law_other -/
def l1_d_law_is_first : SM :=
    (sKill [3] (sIf (mT (mOp ltD (mOp subscr (mV 1) (mV 3)) (mOp subscr (mV 1) (mV 2))))
    (sRet (mC (D.bl false)))
    sNx))
def b_d_law_is_first : SM :=
    (sSeq (sIf (mT (mOp eqD (mV 2) (mC (D.str ""))))
    (sRet (mC (D.bl true)))
    sNx)
    (sSeq (sIf (mT (mOp geD (mOp subscr (mV 1) (mV 2)) (mOp subscr (mV 0) (mC (D.int 0)))))
    (sRet (mC (D.bl false)))
    sNx)
    (sSeq (sKill [0, 2, 1] (sFor (mItems' (mP (mOp subscr (mV 0) (mC (D.int 1))))) (tgN 3) l1_d_law_is_first))
    (sRet (mC (D.bl true))))))
def f_d_law_is_first : List D → Option (D × Ev) := runF 3 4 b_d_law_is_first
/- 0 _law_case_here, 1 _law_table, 2 _law_lates_here, 3 _law_name, 4 _law_moment_here, 5 _law_dim, 6 _law_k, 7 _law_wanted, 8 _law_line -/
def l1_d_law_moment_v2 : SM :=
    (sSeq (sAsg 8 (mP (mOp subscr (mOp subscr (mV 0) (mC (D.int 4))) (mV 6))))
    (sKill [6, 8] (sIf (mAnd (mT (mOp eqD (mOp subscr (mV 8) (mC (D.int 1))) (mV 3))) (mT (mOp notND (mOp subscr (mV 2) (mV 6)) (mC D.non))))
    (sIf (mT (mOp isND (mOp subscr (mV 8) (mC (D.int 3))) (mC D.non)))
    (sEff (bMeth1 (pN 5) (mOp addD (mOp subscr (mV 1) (mOp subscr (mV 8) (mC (D.int 0)))) (mOp subscr (mV 2) (mV 6))) opAppend))
    (sFrz 4 (sAsg 4 (mCall minD (mCons (mLst (mCons (mP (mV 4)) (mCons (mOp addD (mOp subscr (mV 1) (mOp subscr (mV 8) (mC (D.int 0)))) (mOp subscr (mV 2) (mV 6))) mNil))) mNil)))))
    sNx)))
def b_d_law_moment_v2 : SM :=
    (sSeq (sAsg 4 (mP (mOp subscr (mV 0) (mC (D.int 0)))))
    (sSeq (sAsg 5 (mLst mNil))
    (sSeq (sKill [2, 1] (sFor (mRng1 (mCons (mCall lenD (mCons (mOp subscr (mV 0) (mC (D.int 4))) mNil)) mNil)) (tgN 6) l1_d_law_moment_v2))
    (sSeq (sKill [0, 3] (sAsg 7 (mP (mOp subscr (mOp subscr (mV 0) (mC (D.int 3))) (mOp indexD (mOp subscr (mV 0) (mC (D.int 1))) (mV 3))))))
    (sSeq (sKill [5, 7] (sIf (mT (mOp geD (mCall lenD (mCons (mV 5) mNil)) (mV 7)))
    (sFrz 4 (sAsg 4 (mCall minD (mCons (mLst (mCons (mP (mV 4)) (mCons (mP (mOp subscr (mCall sortedD (mCons (mV 5) mNil)) (mOp subD (mV 7) (mC (D.int 1))))) mNil))) mNil))))
    sNx))
    (sRetV 4))))))
def f_d_law_moment_v2 : List D → Option (D × Ev) := runF 4 9 b_d_law_moment_v2
/- 0 _law_case_here, 1 _law_row_here, 2 _law_most_faults, 3 _law_lates_here, 4 _law_own, 5 _law_failing, 6 _law_k, 7 _law_table, 8 _law_name, 9 _law_turn, 10 _law_moment_here -/
def l1_d_law_run_v2 : SM :=
    (sSeq (sAsg 8 (mP (mOp subscr (mOp subscr (mV 0) (mC (D.int 1))) (mV 6))))
    (sSeq (sIf (mAnd (mT (mOp eqD (mOp modD (mCall intD (mCons (mOp subscr (mV 1) (mV 6)) mNil)) (mC (D.int 3))) (mC (D.int 1)))) (mT (mOp ltD (mCall lenD (mCons (mV 5) mNil)) (mV 2))))
    (sFrz 8 (sEff (bMeth1 (pN 5) (mP (mV 8)) opAppend)))
    sNx)
    (sKill [6, 8] (sIf (mOr (mT (mOp inD (mV 8) (mV 5))) (mTr (mOp subscr (mOp subscr (mV 0) (mC (D.int 2))) (mV 6))))
    (sPut (pN 4) (mV 8) (mOp modD (mCall intD (mCons (mOp subscr (mV 1) (mOp addD (mC (D.int 8)) (mV 6))) mNil)) (mOp addD (mOp subscr (mV 0) (mC (D.int 0))) (mC (D.int 1)))))
    sNx))))
def l2_d_law_run_v2 : SM :=
    (sKill [8] (sPut (pN 7) (mV 8) (mP (mOp subscr (mV 0) (mC (D.int 0))))))
def l3_d_law_run_v2 : SM :=
    (sKill [10, 8] (sIf (mT (mOp inD (mV 8) (mV 5)))
    (sPut (pN 7) (mV 8) (mP (mOp subscr (mV 4) (mV 8))))
    (sSeq (sAsg 10 (mPos f_d_law_moment_v2 (mCons (mV 0) (mCons (mV 7) (mCons (mV 3) (mCons (mV 8) mNil))))))
    (sSeq (sIf (mT (mOp inD (mV 8) (mV 4)))
    (sFrz 10 (sAsg 10 (mCall minD (mCons (mLst (mCons (mP (mV 10)) (mCons (mP (mOp subscr (mV 4) (mV 8))) mNil))) mNil))))
    sNx)
    (sFrz 10 (sPut (pN 7) (mV 8) (mP (mV 10))))))))
def l4_d_law_run_v2 : SM :=
    (sKill [9] (sFor (mItems' (mP (mOp subscr (mV 0) (mC (D.int 1))))) (tgN 8) l3_d_law_run_v2))
def b_d_law_run_v2 : SM :=
    (sSeq (sAsg 3 (mPos f_d_law_lates (mCons (mV 0) (mCons (mSl (mV 1) (mOSome (mC (D.int 30))) (mOSome (mC (D.int 60)))) mNil))))
    (sSeq (sAsg 4 (mC (D.dct true [] [])))
    (sSeq (sAsg 5 (mLst mNil))
    (sSeq (sKill [2, 1] (sFor (mRng1 (mCons (mCall lenD (mCons (mOp subscr (mV 0) (mC (D.int 1))) mNil)) mNil)) (tgN 6) l1_d_law_run_v2))
    (sSeq (sAsg 7 (mC (D.dct true [] [])))
    (sSeq (sFor (mItems' (mP (mOp subscr (mV 0) (mC (D.int 1))))) (tgN 8) l2_d_law_run_v2)
    (sSeq (sKill [0, 5, 3, 4] (sFor (mRng1 (mCons (mOp addD (mCall lenD (mCons (mOp subscr (mV 0) (mC (D.int 1))) mNil)) (mC (D.int 1))) mNil)) (tgN 9) l4_d_law_run_v2))
    (sRetV 7))))))))
def f_d_law_run_v2 : List D → Option (D × Ev) := runF 3 11 b_d_law_run_v2
/- 0 log, 1 faults, 2 first, 3 table -/
def b_d_allows : SM :=
    (sSeq (sKill [1, 2] (sAsg 3 (mPure f_d_earliest_table [.p 0, .p 1, .k 0] [] (mCons (mV 0) (mCons (mV 1) mNil)) (mCons (mV 2) mNil))))
    (sRet (mAndV (mOp notND (mV 3) (mC D.non)) (mOp (inOwnD 1 f_m_Log_ddcontains false) (mV 3) (mV 0)))))
def f_d_allows : List D → Option (D × Ev) := runF 3 4 b_d_allows
/- 0 _law_chain, 1 _law_row_here -/
def l1_d_law_is_chain : SM :=
    (sSeq (sIf (mOr (mNot (mTr (mIsi "tuple" (mV 1)))) (mOr (mT (mOp neD (mCall lenD (mCons (mV 1) mNil)) (mC (D.int 4)))) (mNot (mTr (mPos f_d_law_is_integer (mCons (mOp subscr (mV 1) (mC (D.int 3))) mNil))))))
    (sRet (mC (D.bl false)))
    sNx)
    (sKill [1] (sIf (mOr (mNot (mTr (mIsi "str" (mOp subscr (mV 1) (mC (D.int 0)))))) (mOr (mNot (mTr (mIsi "str" (mOp subscr (mV 1) (mC (D.int 1)))))) (mNot (mTr (mIsi "str" (mOp subscr (mV 1) (mC (D.int 2))))))))
    (sRet (mC (D.bl false)))
    sNx)))
def b_d_law_is_chain : SM :=
    (sSeq (sIf (mNot (mTr (mIsi "list" (mV 0))))
    (sRet (mC (D.bl false)))
    sNx)
    (sSeq (sKill [0] (sFor (mItems' (mP (mV 0))) (tgN 1) l1_d_law_is_chain))
    (sRet (mC (D.bl true)))))
def f_d_law_is_chain : List D → Option (D × Ev) := runF 1 2 b_d_law_is_chain
/- 0 log, 1 bounds, 2 row, 3 first, 4 kind, 5 name, 6 other, 7 time, 8 span -/
def b_d_told_early : SM :=
    (sSeq (sKill [2] (sAsgG (tgTup 4 (tgCons (tgN 4) (tgCons (tgN 5) (tgCons (tgN 6) (tgCons (tgN 7) tgNil))))) (mP (mV 2))))
    (sSeq (sKill [8] (sIf (mT (mOp eqD (mV 4) (mC (D.str "line"))))
    (sSeq (sKill [0, 5] (sAsg 8 (mPos f_m_Network_lateness (mRecv 0 "lateness" (mFld 1 "network" (mV 0)) (mCons (mV 5) (mCons (mV 6) mNil))))))
    (sSeq (sKill [1, 7] (sIf (mOr (mT (mOp isND (mV 8) (mC D.non))) (mOr (mT (mOp isND (mOp subscr (mV 8) (mC (D.int 1))) (mC D.non))) (mT (mOp neD (mV 7) (mOp subD (mOp subscr (mV 1) (mV 6)) (mOp subscr (mV 8) (mC (D.int 1))))))))
    (sRet (mC D.non))
    sNx))
    (sFrz 6 (sRet (mLst (mCons (mTup (mCons (mP (mV 6)) (mCons (mC (D.str "sleep")) mNil))) mNil))))))
    sNx))
    (sSeq (sKill [0, 5] (sIf (mAnd (mT (mOp eqD (mV 4) (mC (D.str "note")))) (mAnd (mT (mOp eqD (mV 6) (mV 5))) (mT (mOp eqD (mV 7) (mOp subscr (mPos f_m_Log_window (mRecv 1 "window" (mV 0) (mCons (mV 5) mNil))) (mC (D.int 0)))))))
    (sRet (mLst mNil))
    sNx))
    (sSeq (sKill [1, 3, 4, 6, 7] (sIf (mAnd (mT (mOp eqD (mV 4) (mC (D.str "first")))) (mAnd (mT (mOp notND (mV 3) (mC D.non))) (mAnd (mT (mOp eqD (mV 6) (mV 3))) (mT (mOp eqD (mV 7) (mOp subscr (mV 1) (mV 3)))))))
    (sRet (mLst mNil))
    sNx))
    (sRet (mC D.non))))))
def f_d_told_early : List D → Option (D × Ev) := runF 4 9 b_d_told_early
/- 0 log, 1 row, 2 kind, 3 name, 4 other, 5 time -/
def b_d_told_spread : SM :=
    (sSeq (sKill [2, 1] (sAsgG (tgTup 4 (tgCons (tgN 2) (tgCons (tgN 3) (tgCons (tgN 4) (tgCons (tgN 5) tgNil))))) (mP (mV 1))))
    (sSeq (sKill [0, 4, 5] (sIf (mOr (mT (mOp neD (mV 4) (mV 3))) (mOr (mTr (mPos f_m_Network_is_lookout (mRecv 0 "is_lookout" (mFld 1 "network" (mV 0)) (mCons (mV 3) mNil)))) (mNot (mT (mCh leD leD (mC (D.int 0)) (mV 5) (mFld 0 "dawn" (mFld 1 "network" (mV 0))))))))
    (sRet (mC D.non))
    sNx))
    (sFrz 3 (sRet (mLst (mCons (mTup (mCons (mP (mV 3)) (mCons (mC (D.str "err")) mNil))) mNil))))))
def f_d_told_spread : List D → Option (D × Ev) := runF 2 6 b_d_told_spread
/- 0 log, 1 bounds, 2 row, 3 first, 4 kind, 5 name, 6 other, 7 time -/
def b_d_told_last : SM :=
    (sSeq (sKill [2] (sAsgG (tgTup 4 (tgCons (tgN 4) (tgCons (tgN 5) (tgCons (tgN 6) (tgCons (tgN 7) tgNil))))) (mP (mV 2))))
    (sSeq (sKill [6] (sIf (mT (mOp neD (mV 6) (mV 5)))
    (sRet (mC D.non))
    sNx))
    (sSeq (sIf (mAnd (mT (mOp eqD (mV 4) (mC (D.str "high")))) (mAnd (mT (mOp eqD (mV 7) (mPos f_d_highest (mCons (mV 0) (mCons (mV 5) (mCons (mV 3) mNil)))))) (mT (mOp gtD (mOp subscr (mV 1) (mV 5)) (mV 7)))))
    (sRet (mLst mNil))
    sNx)
    (sSeq (sKill [1, 3, 4, 0, 5, 7] (sIf (mAnd (mT (mOp eqD (mV 4) (mC (D.str "ring")))) (mAnd (mT (mOp eqD (mV 5) (mV 3))) (mAnd (mNot (mTr (mPos f_m_Network_is_lookout (mRecv 0 "is_lookout" (mFld 1 "network" (mV 0)) (mCons (mV 5) mNil))))) (mT (mOp eqD (mV 7) (mOp subscr (mV 1) (mV 5)))))))
    (sFrz 5 (sRet (mLst (mCons (mTup (mCons (mP (mV 5)) (mCons (mC (D.str "err")) mNil))) mNil))))
    sNx))
    (sRet (mC D.non))))))
def f_d_told_last : List D → Option (D × Ev) := runF 4 8 b_d_told_last
/- 0 _law_names_here, 1 _law_limit, 2 _law_sets_here, 3 _law_last, 4 _law_size, 5 _law_longer, 6 _law_pair, 7 _law_k, 8 _law_kind_here -/
def l1_d_law_sets : SM :=
    (sKill [8] (sEff (bMeth1 (pN 5) (mLst (mCons (mOp addD (mV 7) (mC (D.int 1))) (mCons (mOp addD (mOp subscr (mV 6) (mC (D.int 1))) (mLst (mCons (mTup (mCons (mP (mOp subscr (mV 0) (mV 7))) (mCons (mP (mV 8)) mNil))) mNil))) mNil))) opAppend)))
def l2_d_law_sets : SM :=
    (sKill [7] (sFor (mItems' (mLst (mCons (mC (D.str "err")) (mCons (mC (D.str "sleep")) mNil)))) (tgN 8) l1_d_law_sets))
def l3_d_law_sets : SM :=
    (sKill [6] (sFor (mRng2 (mCons (mOp subscr (mV 6) (mC (D.int 0))) (mCons (mCall lenD (mCons (mV 0) mNil)) mNil))) (tgN 7) l2_d_law_sets))
def l4_d_law_sets : SM :=
    (sKill [6] (sEff (bMeth1 (pN 2) (mP (mOp subscr (mV 6) (mC (D.int 1)))) opAppend)))
def l5_d_law_sets : SM :=
    (sKill [4] (sSeq (sAsg 5 (mLst mNil))
    (sSeq (sFrz 3 (sKill [3] (sFor (mItems' (mP (mV 3))) (tgN 6) l3_d_law_sets)))
    (sSeq (sFrz 5 (sFor (mItems' (mP (mV 5))) (tgN 6) l4_d_law_sets))
    (sKill [5] (sAsg 3 (mCall lstD (mCons (mV 5) mNil))))))))
def b_d_law_sets : SM :=
    (sSeq (sAsg 2 (mLst (mCons (mLst mNil) mNil)))
    (sSeq (sAsg 3 (mLst (mCons (mLst (mCons (mC (D.int 0)) (mCons (mLst mNil) mNil))) mNil)))
    (sSeq (sKill [3, 1, 0] (sFor (mRng1 (mCons (mV 1) mNil)) (tgN 4) l5_d_law_sets))
    (sRetV 2))))
def f_d_law_sets : List D → Option (D × Ev) := runF 2 9 b_d_law_sets
/- 0 _law_faults_here, 1 _law_named_here, 2 _law_listed, 3 _law_hit, 4 _law_fault -/
def l1_d_law_hits_all : SM :=
    (sKill [4] (sIf (mT (mOp inD (mV 4) (mV 2)))
    (sAsg 3 (mC (D.bl true)))
    sNx))
def l2_d_law_hits_all : SM :=
    (sSeq (sAsg 3 (mC (D.bl false)))
    (sSeq (sKill [2] (sFor (mItems' (mP (mV 0))) (tgN 4) l1_d_law_hits_all))
    (sKill [3] (sIf (mNot (mTr (mV 3)))
    (sRet (mC (D.bl false)))
    sNx))))
def b_d_law_hits_all : SM :=
    (sSeq (sKill [0, 1] (sFor (mItems' (mP (mV 1))) (tgN 2) l2_d_law_hits_all))
    (sRet (mC (D.bl true))))
def f_d_law_hits_all : List D → Option (D × Ev) := runF 2 5 b_d_law_hits_all
/- 0 _law_case_here, 1 _law_windows_here, 2 _law_table_here, 3 _law_k -/
def l1_d_law_inside : SM :=
    (sKill [3] (sIf (mOr (mT (mOp ltD (mOp subscr (mV 2) (mOp subscr (mOp subscr (mV 0) (mC (D.int 1))) (mV 3))) (mOp subscr (mOp subscr (mV 1) (mV 3)) (mC (D.int 0))))) (mT (mOp gtD (mOp subscr (mV 2) (mOp subscr (mOp subscr (mV 0) (mC (D.int 1))) (mV 3))) (mOp subscr (mOp subscr (mV 1) (mV 3)) (mC (D.int 1))))))
    (sRet (mC (D.bl false)))
    sNx))
def b_d_law_inside : SM :=
    (sSeq (sKill [0, 2, 1] (sFor (mRng1 (mCons (mCall lenD (mCons (mOp subscr (mV 0) (mC (D.int 1))) mNil)) mNil)) (tgN 3) l1_d_law_inside))
    (sRet (mC (D.bl true))))
def f_d_law_inside : List D → Option (D × Ev) := runF 3 4 b_d_law_inside
/- 0 _law_case_here, 1 _law_row_here, 2 _law_names_here, 3 _law_lines, 4 _law_k, 5 _law_pair, 6 _law_shortest, 7 _law_longest -/
def l1_d_law_few : SM :=
    (sSeq (sAsg 5 (mP (mOp subscr (mLst (mCons (mLst (mCons (mC (D.int 0)) (mCons (mC (D.int 2)) mNil))) (mCons (mLst (mCons (mC (D.int 1)) (mCons (mC (D.int 2)) mNil))) (mCons (mLst (mCons (mC (D.int 0)) (mCons (mC (D.int 1)) mNil))) mNil)))) (mOp modD (mCall intD (mCons (mOp addD (mOp subscr (mV 1) (mC (D.int 4))) (mV 4)) mNil)) (mC (D.int 3))))))
    (sSeq (sAsg 6 (mOp addD (mC (D.int 1)) (mOp modD (mCall intD (mCons (mOp subscr (mV 1) (mOp addD (mC (D.int 5)) (mV 4))) mNil)) (mC (D.int 3)))))
    (sSeq (sAsg 7 (mC D.non))
    (sSeq (sKill [4] (sIf (mT (mOp gtD (mOp modD (mCall intD (mCons (mOp subscr (mV 1) (mOp addD (mC (D.int 7)) (mV 4))) mNil)) (mC (D.int 4))) (mC (D.int 0))))
    (sAsg 7 (mOp addD (mV 6) (mOp modD (mOp fdivD (mCall intD (mCons (mOp subscr (mV 1) (mOp addD (mC (D.int 7)) (mV 4))) mNil)) (mC (D.int 4))) (mC (D.int 3)))))
    sNx))
    (sFrz 7 (sKill [7, 5, 6] (sEff (bMeth1 (pN 3) (mLst (mCons (mP (mOp subscr (mV 2) (mOp subscr (mV 5) (mC (D.int 0))))) (mCons (mP (mOp subscr (mV 2) (mOp subscr (mV 5) (mC (D.int 1))))) (mCons (mP (mV 6)) (mCons (mP (mV 7)) mNil))))) opAppend))))))))
def c2_d_law_few : Ev → D → Option (Option D) :=
    lcItem (tgN 4) mYes (mOp addD (mC (D.int 1)) (mOp modD (mCall intD (mCons (mOp subscr (mV 1) (mOp addD (mC (D.int 9)) (mV 4))) mNil)) (mC (D.int 2))))
def b_d_law_few : SM :=
    (sSeq (sAsg 2 (mPos f_d_law_names (mCons (mV 1) (mCons (mC (D.int 3)) mNil))))
    (sSeq (sAsg 3 (mLst mNil))
    (sSeq (sFor (mRng1 (mCons (mOp modD (mCall intD (mCons (mOp subscr (mV 1) (mC (D.int 3))) mNil)) (mC (D.int 3))) mNil)) (tgN 4) l1_d_law_few)
    (sFrz 3 (sFrz 2 (sRet (mLst (mCons (mP (mOp subscr (mV 0) (mC (D.int 0)))) (mCons (mP (mV 2)) (mCons (mLst (mCons (mC (D.bl false)) (mCons (mC (D.bl false)) (mCons (mC (D.bl false)) mNil)))) (mCons (mLcN (mRng1 (mCons (mC (D.int 3)) mNil)) c2_d_law_few [4]) (mCons (mP (mV 3)) mNil))))))))))))
def f_d_law_few : List D → Option (D × Ev) := runF 2 8 b_d_law_few
/- 0 _law_case_here, 1 _law_row_here, 2 _law_table_here, 3 _law_way, 4 _law_windows_here, 5 _law_k, 6 _law_time -/
def l1_d_law_shown : SM :=
    (sSeq (sAsg 6 (mP (mOp subscr (mV 2) (mOp subscr (mOp subscr (mV 0) (mC (D.int 1))) (mV 5)))))
    (sKill [5, 6] (sIf (mT (mOp eqD (mV 3) (mC (D.int 3))))
    (sFrz 6 (sEff (bMeth1 (pN 4) (mLst (mCons (mP (mV 6)) (mCons (mP (mV 6)) mNil))) opAppend)))
    (sIf (mOr (mT (mOp eqD (mV 3) (mC (D.int 4)))) (mT (mOp eqD (mV 5) (mOp subD (mCall lenD (mCons (mOp subscr (mV 0) (mC (D.int 1))) mNil)) (mC (D.int 1))))))
    (sEff (bMeth1 (pN 4) (mLst (mCons (mC (D.int 0)) (mCons (mOp subD (mOp subscr (mV 0) (mC (D.int 0))) (mC (D.int 1))) mNil))) opAppend))
    (sEff (bMeth1 (pN 4) (mLst (mCons (mC (D.int 0)) (mCons (mP (mOp subscr (mV 0) (mC (D.int 0)))) mNil))) opAppend))))))
def b_d_law_shown : SM :=
    (sSeq (sIf (mT (mOp ltD (mV 3) (mC (D.int 2))))
    (sRet (mPos f_d_law_windows_v2 (mCons (mV 0) (mCons (mV 1) (mCons (mC D.non) mNil)))))
    sNx)
    (sSeq (sKill [1] (sIf (mT (mOp eqD (mV 3) (mC (D.int 2))))
    (sRet (mPos f_d_law_windows_v2 (mCons (mV 0) (mCons (mV 1) (mCons (mV 2) mNil)))))
    sNx))
    (sSeq (sAsg 4 (mLst mNil))
    (sSeq (sKill [0, 2, 3] (sFor (mRng1 (mCons (mCall lenD (mCons (mOp subscr (mV 0) (mC (D.int 1))) mNil)) mNil)) (tgN 5) l1_d_law_shown))
    (sRetV 4)))))
def f_d_law_shown : List D → Option (D × Ev) := runF 4 7 b_d_law_shown
/- 0 _law_script, 1 _law_choice, 2 _law_extra, 3 _law_case_here, 4 _law_way, 5 _law_limit, 6 _law_trusting, 7 _law_trusted, 8 _law_times, 9 _law_k -/
def c1_d_law_drawn : Ev → D → Option (Option D) :=
    lcItem (tgN 9) (mAnd (mTr (mV 6)) (mT (mOp eqD (mOp modD (mCall intD (mCons (mOp subscr (mV 1) (mOp addD (mC (D.int 10)) (mV 9))) mNil)) (mC (D.int 5))) (mC (D.int 0))))) (mP (mOp subscr (mOp subscr (mV 3) (mC (D.int 1))) (mV 9)))
def b_d_law_drawn : SM :=
    (sSeq (sAsg 3 (mPos f_d_law_case (mCons (mPos f_d_law_cell (mCons (mV 0) (mCons (mC (D.int 0)) mNil))) (mCons (mC (D.int 3)) (mCons (mC (D.int 4)) mNil)))))
    (sSeq (sAsg 4 (mOp modD (mCall intD (mCons (mOp subscr (mV 2) (mC (D.int 2))) mNil)) (mC (D.int 6))))
    (sSeq (sAsg 5 (mOp modD (mCall intD (mCons (mOp subscr (mV 1) (mC (D.int 1))) mNil)) (mC (D.int 4))))
    (sSeq (sAsg 6 (mC (D.bl true)))
    (sSeq (sKill [2] (sIf (mT (mOp eqD (mOp modD (mCall intD (mCons (mOp subscr (mV 2) (mC (D.int 1))) mNil)) (mC (D.int 3))) (mC (D.int 2))))
    (sSeq (sAsg 3 (mPos f_d_law_few (mCons (mV 3) (mCons (mSl (mV 2) (mOSome (mC (D.int 20))) mONone) mNil))))
    (sSeq (sAsg 6 (mOp eqD (mOp modD (mCall intD (mCons (mOp subscr (mV 2) (mC (D.int 5))) mNil)) (mC (D.int 4))) (mC (D.int 0))))
    (sSeq (sIf (mT (mOp ltD (mOp modD (mCall intD (mCons (mOp subscr (mV 2) (mC (D.int 3))) mNil)) (mC (D.int 4))) (mC (D.int 3))))
    (sAsg 4 (mOp addD (mC (D.int 4)) (mOp modD (mCall intD (mCons (mOp subscr (mV 2) (mC (D.int 3))) mNil)) (mC (D.int 2)))))
    sNx)
    (sIf (mT (mOp eqD (mOp modD (mCall intD (mCons (mOp subscr (mV 2) (mC (D.int 4))) mNil)) (mC (D.int 2))) (mC (D.int 0))))
    (sAsg 5 (mC (D.int 3)))
    sNx))))
    sNx))
    (sSeq (sKill [1, 6] (sAsg 7 (mLcN (mRng1 (mCons (mCall lenD (mCons (mOp subscr (mV 3) (mC (D.int 1))) mNil)) mNil)) c1_d_law_drawn [9])))
    (sSeq (sAsg 8 (mPos f_d_law_table (mCons (mV 3) (mCons (mPos f_d_law_row (mCons (mPos f_d_law_cell (mCons (mV 0) (mCons (mC (D.int 1)) mNil))) (mCons (mC (D.int 60)) mNil))) mNil))))
    (sFrz 7 (sFrz 3 (sRet (mLst (mCons (mP (mV 3)) (mCons (mPos f_d_law_shown (mCons (mV 3) (mCons (mPos f_d_law_row (mCons (mPos f_d_law_cell (mCons (mV 0) (mCons (mC (D.int 2)) mNil))) (mCons (mC (D.int 60)) mNil))) (mCons (mV 8) (mCons (mV 4) mNil))))) (mCons (mP (mV 7)) (mCons (mP (mV 5)) mNil)))))))))))))))
def f_d_law_drawn : List D → Option (D × Ev) := runF 3 10 b_d_law_drawn
/- 0 _law_case_here, 1 _law_story, 2 _law_windows_here, 3 _law_trusted, 4 _law_limit, 5 _law_leader, 6 _law_fault -/
def l1_d_law_tells : SM :=
    (sKill [6] (sIf (mT (mOp inD (mOp subscr (mV 6) (mC (D.int 0))) (mV 3)))
    (sRet (mC (D.bl false)))
    sNx))
def b_d_law_tells : SM :=
    (sSeq (sKill [3] (sFor (mItems' (mP (mOp subscr (mV 1) (mC (D.int 1))))) (tgN 6) l1_d_law_tells))
    (sSeq (sKill [4, 2] (sIf (mOr (mT (mOp gtD (mCall lenD (mCons (mOp subscr (mV 1) (mC (D.int 1))) mNil)) (mV 4))) (mNot (mTr (mPos f_d_law_inside (mCons (mV 0) (mCons (mV 2) (mCons (mOp subscr (mV 1) (mC (D.int 0))) mNil)))))))
    (sRet (mC (D.bl false)))
    sNx))
    (sRet (mPos f_d_law_is_first (mCons (mV 0) (mCons (mOp subscr (mV 1) (mC (D.int 0))) (mCons (mV 5) mNil)))))))
def f_d_law_tells : List D → Option (D × Ev) := runF 6 7 b_d_law_tells
/- 0 _law_case_here, 1 _law_faults_here, 2 _law_fault -/
def c1_d_law_rank : Ev → D → Option (Option D) :=
    lcItem (tgN 2) mYes (mOp addD (mOp mulD (mC (D.int 2)) (mOp indexD (mOp subscr (mV 0) (mC (D.int 1))) (mOp subscr (mV 2) (mC (D.int 0))))) (mCall intD (mCons (mOp eqD (mOp subscr (mV 2) (mC (D.int 1))) (mC (D.str "sleep"))) mNil)))
def b_d_law_rank : SM :=
    (sRet (mOp addD (mLst (mCons (mCall lenD (mCons (mV 1) mNil)) mNil)) (mLcN (mItems' (mP (mV 1))) c1_d_law_rank [2])))
def f_d_law_rank : List D → Option (D × Ev) := runF 2 3 b_d_law_rank
/- 0 _law_case_here, 1 _law_stories, 2 _law_windows_here, 3 _law_trusted, 4 _law_limit, 5 _law_leader, 6 _law_found, 7 _law_best, 8 _law_story, 9 _law_rank_here, 10 _law_name -/
def l1_d_law_expected : SM :=
    (sKill [10] (sPut (pKey (mC (D.int 1)) (pN 6)) (mV 10) (mCall minD (mCons (mLst (mCons (mP (mOp subscr (mOp subscr (mV 6) (mC (D.int 1))) (mV 10))) (mCons (mP (mOp subscr (mOp subscr (mV 8) (mC (D.int 0))) (mV 10))) mNil))) mNil))))
def l2_d_law_expected : SM :=
    (sKill [9, 8] (sIf (mTr (mPos f_d_law_tells (mCons (mV 0) (mCons (mV 8) (mCons (mV 2) (mCons (mV 3) (mCons (mV 4) (mCons (mV 5) mNil))))))))
    (sSeq (sAsg 9 (mPos f_d_law_rank (mCons (mV 0) (mCons (mOp subscr (mV 8) (mC (D.int 1))) mNil))))
    (sIf (mOr (mT (mOp eqD (mV 6) (mLst mNil))) (mT (mOp ltD (mV 9) (mV 7))))
    (sSeq (sFrz 9 (sAsg 7 (mP (mV 9))))
    (sAsg 6 (mLst (mCons (mP (mOp subscr (mV 8) (mC (D.int 1)))) (mCons (mCall dictD (mCons (mOp subscr (mV 8) (mC (D.int 0))) mNil)) mNil)))))
    (sIf (mT (mOp eqD (mV 9) (mV 7)))
    (sFor (mItems' (mP (mOp subscr (mV 0) (mC (D.int 1))))) (tgN 10) l1_d_law_expected)
    sNx)))
    sNx))
def b_d_law_expected : SM :=
    (sSeq (sAsg 6 (mLst mNil))
    (sSeq (sAsg 7 (mLst mNil))
    (sSeq (sKill [7, 0, 5, 4, 1, 3, 2] (sFor (mItems' (mP (mV 1))) (tgN 8) l2_d_law_expected))
    (sRetV 6))))
def f_d_law_expected : List D → Option (D × Ev) := runF 6 11 b_d_law_expected
/- 0 _law_log_here, 1 _law_case_here, 2 _law_windows_here, 3 _law_trusted, 4 _law_network_here, 5 _law_k, 6 _law_name, 7 _law_line -/
def c1_d_law_stays : Ev → D → Option (Option D) :=
    lcItem (tgN 7) mYes (mCall tupleD (mCons (mV 7) mNil))
def l2_d_law_stays : SM :=
    (sSeq (sAsg 6 (mP (mOp subscr (mOp subscr (mV 1) (mC (D.int 1))) (mV 5))))
    (sSeq (sIf (mOr (mT (mOp neD (mPos f_m_Network_is_lookout (mRecv 0 "is_lookout" (mV 4) (mCons (mV 6) mNil))) (mOp subscr (mOp subscr (mV 1) (mC (D.int 2))) (mV 5)))) (mT (mOp neD (mPos f_m_Network_need_of (mRecv 0 "need_of" (mV 4) (mCons (mV 6) mNil))) (mOp subscr (mOp subscr (mV 1) (mC (D.int 3))) (mV 5)))))
    (sRet (mC (D.bl false)))
    sNx)
    (sKill [5, 6] (sIf (mOr (mT (mOp neD (mPos f_m_Log_window (mRecv 1 "window" (mV 0) (mCons (mV 6) mNil))) (mCall tupleD (mCons (mOp subscr (mV 2) (mV 5)) mNil)))) (mT (mOp neD (mPos f_m_Log_is_trusted (mRecv 1 "is_trusted" (mV 0) (mCons (mV 6) mNil))) (mOp inD (mV 6) (mV 3)))))
    (sRet (mC (D.bl false)))
    sNx))))
def b_d_law_stays : SM :=
    (sSeq (sAsg 4 (mP (mFld 1 "network" (mV 0))))
    (sSeq (sIf (mOr (mT (mOp neD (mFld 0 "dawn" (mV 4)) (mOp subscr (mV 1) (mC (D.int 0))))) (mT (mOp neD (mCall (lstF 0 "names") (mCons (mV 4) mNil)) (mOp subscr (mV 1) (mC (D.int 1))))))
    (sRet (mC (D.bl false)))
    sNx)
    (sSeq (sIf (mT (mOp neD (mPos f_m_Network_lines (mRecv 0 "lines" (mV 4) mNil)) (mLcN (mItems' (mP (mOp subscr (mV 1) (mC (D.int 4))))) c1_d_law_stays [7])))
    (sRet (mC (D.bl false)))
    sNx)
    (sSeq (sKill [1, 0, 4, 3, 2] (sFor (mRng1 (mCons (mCall lenD (mCons (mOp subscr (mV 1) (mC (D.int 1))) mNil)) mNil)) (tgN 5) l2_d_law_stays))
    (sRet (mC (D.bl true)))))))
def f_d_law_stays : List D → Option (D × Ev) := runF 4 8 b_d_law_stays
/- 0 _law_case_here, 1 _law_table_here, 2 _law_name, 3 _law_earlier, 4 _law_one -/
def c1_d_law_is_first_v3 : Ev → D → Option (Option D) :=
    lcItem (tgN 4) (mT (mOp ltD (mOp subscr (mV 1) (mV 4)) (mOp subscr (mV 1) (mV 2)))) (mP (mV 4))
def b_d_law_is_first_v3 : SM :=
    (sSeq (sIf (mT (mOp eqD (mV 2) (mC (D.str ""))))
    (sRet (mC (D.bl true)))
    sNx)
    (sSeq (sAsg 3 (mLcN (mItems' (mP (mOp subscr (mV 0) (mC (D.int 1))))) c1_d_law_is_first_v3 [4]))
    (sRet (mAndV (mOp ltD (mOp subscr (mV 1) (mV 2)) (mOp subscr (mV 0) (mC (D.int 0)))) (mOp eqD (mV 3) (mLst mNil))))))
def f_d_law_is_first_v3 : List D → Option (D × Ev) := runF 3 5 b_d_law_is_first_v3
/- 0 _law_case_here, 1 _law_windows_here, 2 _law_bounds, 3 _law_row_here, 4 _law_leader, 5 _law_place, 6 _law_end, 7 _law_span_here -/
def b_d_law_right_v2 : SM :=
    (sSeq (sAsg 5 (mOp indexD (mOp subscr (mV 0) (mC (D.int 1))) (mOp subscr (mV 3) (mC (D.int 1)))))
    (sSeq (sKill [7] (sIf (mT (mOp eqD (mOp subscr (mV 3) (mC (D.int 0))) (mC (D.str "line"))))
    (sSeq (sKill [0] (sAsg 7 (mPos f_d_law_span (mCons (mV 0) (mCons (mOp subscr (mV 3) (mC (D.int 1))) (mCons (mOp subscr (mV 3) (mC (D.int 2))) mNil))))))
    (sRet (mAndV (mOp gtD (mV 7) (mC (D.int 0))) (mOp eqD (mOp subscr (mV 3) (mC (D.int 3))) (mOp subD (mOp subscr (mV 2) (mOp subscr (mV 3) (mC (D.int 2)))) (mV 7))))))
    sNx))
    (sSeq (sIf (mT (mOp eqD (mOp subscr (mV 3) (mC (D.int 0))) (mC (D.str "first"))))
    (sRet (mAndV (mOp neD (mV 4) (mC (D.str ""))) (mAndV (mOp eqD (mOp subscr (mV 3) (mC (D.int 2))) (mV 4)) (mOp eqD (mOp subscr (mV 3) (mC (D.int 3))) (mOp subscr (mV 2) (mOp subscr (mV 3) (mC (D.int 2))))))))
    sNx)
    (sSeq (sIf (mT (mOp neD (mOp subscr (mV 3) (mC (D.int 2))) (mOp subscr (mV 3) (mC (D.int 1)))))
    (sRet (mC (D.bl false)))
    sNx)
    (sSeq (sIf (mT (mOp eqD (mOp subscr (mV 3) (mC (D.int 0))) (mC (D.str "note"))))
    (sRet (mOp eqD (mOp subscr (mV 3) (mC (D.int 3))) (mOp subscr (mOp subscr (mV 1) (mV 5)) (mC (D.int 0)))))
    sNx)
    (sSeq (sIf (mT (mOp eqD (mOp subscr (mV 3) (mC (D.int 0))) (mC (D.str "spread"))))
    (sRet (mAndV (mNotV (mOp subscr (mOp subscr (mV 0) (mC (D.int 2))) (mV 5))) (mCh leD leD (mC (D.int 0)) (mOp subscr (mV 3) (mC (D.int 3))) (mOp subscr (mV 0) (mC (D.int 0))))))
    sNx)
    (sSeq (sIf (mT (mOp eqD (mOp subscr (mV 3) (mC (D.int 0))) (mC (D.str "ring"))))
    (sRet (mAndV (mOp eqD (mOp subscr (mV 3) (mC (D.int 1))) (mV 4)) (mAndV (mNotV (mOp subscr (mOp subscr (mV 0) (mC (D.int 2))) (mV 5))) (mOp eqD (mOp subscr (mV 3) (mC (D.int 3))) (mOp subscr (mV 2) (mOp subscr (mV 3) (mC (D.int 1))))))))
    sNx)
    (sSeq (sKill [5, 1] (sAsg 6 (mP (mOp subscr (mOp subscr (mV 1) (mV 5)) (mC (D.int 1))))))
    (sSeq (sKill [0, 4] (sIf (mT (mOp eqD (mOp subscr (mV 3) (mC (D.int 1))) (mV 4)))
    (sFrz 6 (sAsg 6 (mCall minD (mCons (mLst (mCons (mP (mV 6)) (mCons (mOp subD (mOp subscr (mV 0) (mC (D.int 0))) (mC (D.int 1))) mNil))) mNil))))
    sNx))
    (sRet (mAndV (mOp eqD (mOp subscr (mV 3) (mC (D.int 3))) (mV 6)) (mOp gtD (mOp subscr (mV 2) (mOp subscr (mV 3) (mC (D.int 1)))) (mV 6)))))))))))))
def f_d_law_right_v2 : List D → Option (D × Ev) := runF 5 8 b_d_law_right_v2
/- 0 _law_case_here, 1 _law_row_here, 2 _law_count, 3 _law_names_here, 4 _law_lines, 5 _law_k, 6 _law_lookouts, 7 _law_shortest, 8 _law_longest -/
def l1_d_law_path_v2 : SM :=
    (sSeq (sAsg 7 (mOp addD (mC (D.int 1)) (mOp modD (mCall intD (mCons (mOp subscr (mV 1) (mOp addD (mC (D.int 10)) (mV 5))) mNil)) (mC (D.int 3)))))
    (sSeq (sKill [8] (sIf (mAnd (mT (mOp gtD (mV 5) (mC (D.int 1)))) (mT (mOp eqD (mOp modD (mCall intD (mCons (mOp subscr (mV 1) (mOp addD (mC (D.int 20)) (mV 5))) mNil)) (mC (D.int 4))) (mC (D.int 0)))))
    (sSeq (sAsg 8 (mP (mOp subscr (mLst (mCons (mC D.non) (mCons (mOp addD (mV 7) (mC (D.int 5))) mNil))) (mOp modD (mCall intD (mCons (mOp subscr (mV 1) (mOp addD (mC (D.int 30)) (mV 5))) mNil)) (mC (D.int 2))))))
    (sFrz 8 (sEff (bMeth1 (pN 4) (mLst (mCons (mP (mOp subscr (mV 3) (mOp subD (mV 5) (mC (D.int 2))))) (mCons (mP (mOp subscr (mV 3) (mV 5))) (mCons (mOp addD (mV 7) (mC (D.int 3))) (mCons (mP (mV 8)) mNil))))) opAppend))))
    sNx))
    (sKill [5, 7] (sEff (bMeth1 (pN 4) (mLst (mCons (mP (mOp subscr (mV 3) (mOp subD (mV 5) (mC (D.int 1))))) (mCons (mP (mOp subscr (mV 3) (mV 5))) (mCons (mP (mV 7)) (mCons (mOp addD (mV 7) (mOp modD (mOp fdivD (mCall intD (mCons (mOp subscr (mV 1) (mOp addD (mC (D.int 10)) (mV 5))) mNil)) (mC (D.int 3))) (mC (D.int 3)))) mNil))))) opAppend)))))
def c2_d_law_path_v2 : Ev → D → Option (Option D) :=
    lcItem (tgN 5) mYes (mOp eqD (mOp modD (mCall intD (mCons (mOp subscr (mV 1) (mOp addD (mC (D.int 40)) (mV 5))) mNil)) (mC (D.int 3))) (mC (D.int 0)))
def c3_d_law_path_v2 : Ev → D → Option (Option D) :=
    lcItem (tgN 5) mYes (mOp addD (mC (D.int 1)) (mOp modD (mCall intD (mCons (mOp subscr (mV 1) (mOp addD (mC (D.int 30)) (mV 5))) mNil)) (mC (D.int 2))))
def b_d_law_path_v2 : SM :=
    (sSeq (sAsg 2 (mOp addD (mC (D.int 6)) (mOp modD (mCall intD (mCons (mOp subscr (mV 1) (mC (D.int 0))) mNil)) (mC (D.int 3)))))
    (sSeq (sAsg 3 (mPos f_d_law_names (mCons (mSl (mV 1) (mOSome (mC (D.int 1))) (mOSome (mC (D.int 9)))) (mCons (mV 2) mNil))))
    (sSeq (sAsg 4 (mLst mNil))
    (sSeq (sFor (mRng2 (mCons (mC (D.int 1)) (mCons (mV 2) mNil))) (tgN 5) l1_d_law_path_v2)
    (sSeq (sIf (mT (mOp eqD (mOp modD (mCall intD (mCons (mOp subscr (mV 1) (mC (D.int 9))) mNil)) (mC (D.int 2))) (mC (D.int 1))))
    (sFrz 3 (sAsg 3 (fun A => ((mV 3) A).bind revD)))
    sNx)
    (sSeq (sAsg 6 (mLcN (mRng1 (mCons (mV 2) mNil)) c2_d_law_path_v2 [5]))
    (sFrz 4 (sFrz 6 (sFrz 3 (sRet (mLst (mCons (mOp addD (mOp subscr (mV 0) (mC (D.int 0))) (mC (D.int 30))) (mCons (mP (mV 3)) (mCons (mP (mV 6)) (mCons (mLcN (mRng1 (mCons (mV 2) mNil)) c3_d_law_path_v2 [5]) (mCons (mP (mV 4)) mNil))))))))))))))))
def f_d_law_path_v2 : List D → Option (D × Ev) := runF 2 9 b_d_law_path_v2
/- 0 _law_case_here, 1 _law_row_here, 2 _law_lines, 3 _law_k, 4 _law_line, 5 _law_limit, 6 _law_shortest, 7 _law_longest -/
def l1_d_law_wide : SM :=
    (sSeq (sAsg 4 (mP (mOp subscr (mOp subscr (mV 0) (mC (D.int 4))) (mV 3))))
    (sSeq (sAsg 5 (mP (mOp subscr (mLst (mCons (mC (D.int 30)) (mCons (mC (D.int 60)) (mCons (mC (D.int 999)) mNil)))) (mOp modD (mCall intD (mCons (mOp subscr (mV 1) (mC (D.int 58))) mNil)) (mC (D.int 3))))))
    (sSeq (sAsg 6 (mOp addD (mC (D.int 1)) (mOp modD (mCall intD (mCons (mOp subscr (mV 1) (mV 3)) mNil)) (mV 5))))
    (sSeq (sAsg 7 (mC D.non))
    (sSeq (sKill [3, 5] (sIf (mT (mOp notND (mOp subscr (mV 4) (mC (D.int 3))) (mC D.non)))
    (sFrz 5 (sAsg 7 (mOp addD (mV 6) (mOp modD (mCall intD (mCons (mOp subscr (mV 1) (mOp addD (mC (D.int 20)) (mV 3))) mNil)) (mCall minD (mCons (mLst (mCons (mP (mV 5)) (mCons (mOp subD (mC (D.int 1000)) (mV 6)) mNil))) mNil))))))
    sNx))
    (sFrz 7 (sKill [4, 7, 6] (sEff (bMeth1 (pN 2) (mLst (mCons (mP (mOp subscr (mV 4) (mC (D.int 0)))) (mCons (mP (mOp subscr (mV 4) (mC (D.int 1)))) (mCons (mP (mV 6)) (mCons (mP (mV 7)) mNil))))) opAppend)))))))))
def b_d_law_wide : SM :=
    (sSeq (sAsg 2 (mLst mNil))
    (sSeq (sFor (mRng1 (mCons (mCall lenD (mCons (mOp subscr (mV 0) (mC (D.int 4))) mNil)) mNil)) (tgN 3) l1_d_law_wide)
    (sFrz 2 (sRet (mLst (mCons (mOp addD (mC (D.int 1)) (mOp modD (mCall intD (mCons (mOp subscr (mV 1) (mC (D.int 59))) mNil)) (mC (D.int 100)))) (mCons (mP (mOp subscr (mV 0) (mC (D.int 1)))) (mCons (mP (mOp subscr (mV 0) (mC (D.int 2)))) (mCons (mP (mOp subscr (mV 0) (mC (D.int 3)))) (mCons (mP (mV 2)) mNil))))))))))
def f_d_law_wide : List D → Option (D × Ev) := runF 2 8 b_d_law_wide
/- 0 _law_case_here, 1 _law_name, 2 _law_letter -/
def l1_d_law_stranger : SM :=
    (sKill [2] (sIf (mT (mOp inD (mV 1) (mOp subscr (mV 0) (mC (D.int 1)))))
    (sAsg 1 (mP (mV 2)))
    sNx))
def b_d_law_stranger : SM :=
    (sSeq (sAsg 1 (mC (D.str "a")))
    (sSeq (sKill [0] (sFor (mItems' (mC (D.str "bcdefghi"))) (tgN 2) l1_d_law_stranger))
    (sRetV 1)))
def f_d_law_stranger : List D → Option (D × Ev) := runF 1 3 b_d_law_stranger
/- 0 log, 1 most, 2 rows, 3 size, 4 faults -/
def c1_d_full_sets : Ev → D → Option (Option D) :=
    lcItem (tgN 4) (mT (mOp eqD (mCall lenD (mCons (mV 4) mNil)) (mV 3))) (mP (mV 4))
def b_d_full_sets : SM :=
    (sSeq (sKill [0, 1] (sAsg 2 (mPure f_d_fault_sets [.p 0, .k 0] [] (mCons (mV 0) mNil) (mCons (mV 1) mNil))))
    (sSeq (sAsg 3 (mCall lenD (mCons (mOp subscr (mV 2) (mNeg (mC (D.int 1)))) mNil)))
    (sFrz 2 (sRet (mLcN (mItems' (mP (mV 2))) c1_d_full_sets [4])))))
def f_d_full_sets : List D → Option (D × Ev) := runF 2 5 b_d_full_sets
/- 0 log, 1 faults, 2 name, 3 low, 4 high -/
def b_d_allows_from : SM :=
    (sSeq (sEff (mLendM f_m_Log_forget 1 "forget" [.p 1] [] (pN 0) (mCons (mV 2) mNil) mNil))
    (sSeq (sKill [4, 3, 2] (sEff (mLendM f_m_Log_note 1 "note" [.p 1, .k 0, .k 1] [] (pN 0) (mCons (mV 2) mNil) (mCons (mV 3) (mCons (mV 4) mNil)))))
    (sRet (mPure f_d_allows [.p 0, .p 1, .c 0] [D.non] (mCons (mV 0) (mCons (mV 1) mNil)) mNil))))
def f_d_allows_from : List D → Option (D × Ev) := runF 5 5 b_d_allows_from
/- 0 trial, 1 faults, 2 name, 3 best, 4 high, 5 low, 6 middle -/
def l1_d_climb : SM :=
    (sSeq (sAsg 6 (mOp fdivD (mOp addD (mOp addD (mV 5) (mV 4)) (mC (D.int 1))) (mC (D.int 2))))
    (sKill [6] (sIfE (tBlE (mLendF f_d_allows_from 0 (pN 0) (mHere (pN 0) (mCons (mV 1) (mCons (mV 2) (mCons (mV 6) (mCons (mV 4) mNil)))))))
    (sAsg 5 (mP (mV 6)))
    (sAsg 4 (mOp subD (mV 6) (mC (D.int 1)))))))
def b_d_climb : SM :=
    (sSeq (sIfE (tOrE (fun A => ((mT (mOp eqD (mV 3) (mV 4))) A).map fun b => (b, A)) (tNotE (tBlE (mLendF f_d_allows_from 0 (pN 0) (mHere (pN 0) (mCons (mV 1) (mCons (mV 2) (mCons (mOp addD (mV 3) (mC (D.int 1))) (mCons (mV 4) mNil)))))))))
    (sRet (mP (mV 3)))
    sNx)
    (sSeq (sKill [3] (sAsg 5 (mOp addD (mV 3) (mC (D.int 1)))))
    (sSeq (sKill [1, 4, 2] (whL (mT (mOp ltD (mV 5) (mV 4))) l1_d_climb 1000))
    (sRetV 5))))
def f_d_climb : List D → Option (D × Ev) := runF 5 7 b_d_climb
/- 0 log, 1 most, 2 name, 3 trial, 4 faults, 5 best, 6 high -/
def l1_d_latest_time : SM :=
    (sFrz 6 (sFrz 5 (sKill [4] (sEffA 5 (mLendF f_d_climb 0 (pN 3) (mHere (pN 3) (mCons (mV 4) (mCons (mV 2) (mCons (mV 5) (mCons (mV 6) mNil))))))))))
def b_d_latest_time : SM :=
    (sSeq (sAsgG (tgTup 2 (tgCons (tgN 5) (tgCons (tgN 6) tgNil))) (mPos f_m_Log_window (mRecv 1 "window" (mV 0) (mCons (mV 2) mNil))))
    (sSeq (sAsg 3 (mPos f_m_Log_copy (mRecv 1 "copy" (mV 0) mNil)))
    (sSeq (sKill [6, 0, 1, 2, 3] (sFor (mItems' (mPos f_d_full_sets (mCons (mV 0) (mCons (mV 1) mNil)))) (tgN 4) l1_d_latest_time))
    (sRetV 5))))
def f_d_latest_time : List D → Option (D × Ev) := runF 3 7 b_d_latest_time
/- 0 log, 1 most, 2 best, 3 faults, 4 table, 5 name -/
def c1_d_earliest_times : Ev → D → Option (Option (Key × D)) :=
    dcItem (tgN 5) mYes (mV 5) (mP (mFld 0 "dawn" (mFld 1 "network" (mV 0))))
def l2_d_earliest_times : SM :=
    (sKill [5] (sPut (pN 2) (mV 5) (mCall minD (mCons (mOp subscr (mV 2) (mV 5)) (mCons (mOp subscr (mV 4) (mV 5)) mNil)))))
def l3_d_earliest_times : SM :=
    (sSeq (sKill [3] (sAsg 4 (mPure f_d_earliest_table [.p 0, .p 1, .c 0] [D.non] (mCons (mV 0) (mCons (mV 3) mNil)) mNil)))
    (sKill [4] (sIf (mT (mOp (inOwnD 1 f_m_Log_ddcontains false) (mV 4) (mV 0)))
    (sFrz 4 (sFor (mItems' (mP (mV 4))) (tgN 5) l2_d_earliest_times))
    sNx)))
def b_d_earliest_times : SM :=
    (sSeq (sAsg 2 (mDcN (mOwnIt 0 "names" (mP (mFld 1 "network" (mV 0)))) c1_d_earliest_times [5]))
    (sSeq (sKill [0, 1] (sFor (mItems' (mPos f_d_full_sets (mCons (mV 0) (mCons (mV 1) mNil)))) (tgN 3) l3_d_earliest_times))
    (sRetV 2)))
def f_d_earliest_times : List D → Option (D × Ev) := runF 2 6 b_d_earliest_times
/- 0 _law_case_here, 1 _law_row_here, 2 _law_k -/
def c1_d_law_some : Ev → D → Option (Option D) :=
    lcItem (tgN 2) (mT (mOp eqD (mOp modD (mCall intD (mCons (mOp subscr (mV 1) (mV 2)) mNil)) (mC (D.int 5))) (mC (D.int 0)))) (mP (mOp subscr (mOp subscr (mV 0) (mC (D.int 1))) (mV 2)))
def b_d_law_some : SM :=
    (sRet (mLcN (mRng1 (mCons (mCall lenD (mCons (mOp subscr (mV 0) (mC (D.int 1))) mNil)) mNil)) c1_d_law_some [2]))
def f_d_law_some : List D → Option (D × Ev) := runF 2 3 b_d_law_some
/- 0 log, 1 most, 2 found, 3 faults, 4 part -/
def c1_d_diagnoses : Ev → D → Option (Option D) :=
    lcItem (tgN 4) mYes (mPos f_d_contains (mCons (mV 3) (mCons (mV 4) mNil)))
def l2_d_diagnoses : SM :=
    (sFrz 2 (sKill [3] (sIf (mAnd (mNot (mTr (mCall anyD (mCons (mLcN (mItems' (mP (mV 2))) c1_d_diagnoses [4]) mNil)))) (mTr (mPure f_d_allows [.p 0, .p 1, .c 0] [D.non] (mCons (mV 0) (mCons (mV 3) mNil)) mNil)))
    (sEff (bMeth1 (pN 2) (mP (mV 3)) opAppend))
    sNx)))
def b_d_diagnoses : SM :=
    (sSeq (sAsg 2 (mLst mNil))
    (sSeq (sKill [0, 1] (sFor (mItems' (mPure f_d_fault_sets [.p 0, .k 0] [] (mCons (mV 0) mNil) (mCons (mV 1) mNil))) (tgN 3) l2_d_diagnoses))
    (sRetV 2)))
def f_d_diagnoses : List D → Option (D × Ev) := runF 2 5 b_d_diagnoses
/- 0 _law_sets_here, 1 _law_known_here, 2 _law_kept, 3 _law_faults_here, 4 _law_smaller, 5 _law_part, 6 _law_missing, 7 _law_fault -/
def c1_d_law_minimal : Ev → D → Option (Option D) :=
    lcItem (tgN 7) (mT (mOp ninD (mV 7) (mV 3))) (mP (mV 7))
def l2_d_law_minimal : SM :=
    (sSeq (sAsg 6 (mLcN (mItems' (mP (mV 5))) c1_d_law_minimal [7]))
    (sKill [6, 5] (sIf (mAnd (mT (mOp neD (mV 5) (mV 3))) (mT (mOp eqD (mV 6) (mLst mNil))))
    (sEff (bMeth1 (pN 4) (mP (mV 5)) opAppend))
    sNx)))
def l3_d_law_minimal : SM :=
    (sSeq (sAsg 4 (mLst mNil))
    (sSeq (sFor (mItems' (mP (mV 1))) (tgN 5) l2_d_law_minimal)
    (sKill [3, 4] (sIf (mAnd (mT (mOp inD (mV 3) (mV 1))) (mT (mOp eqD (mV 4) (mLst mNil))))
    (sEff (bMeth1 (pN 2) (mP (mV 3)) opAppend))
    sNx))))
def b_d_law_minimal : SM :=
    (sSeq (sAsg 2 (mLst mNil))
    (sSeq (sKill [1, 0] (sFor (mItems' (mP (mV 0))) (tgN 3) l3_d_law_minimal))
    (sRetV 2)))
def f_d_law_minimal : List D → Option (D × Ev) := runF 2 8 b_d_law_minimal
/- 0 _law_case_here, 1 _law_row_here, 2 _law_count, 3 _law_names_here, 4 _law_pairs, 5 _law_k, 6 _law_lines, 7 _law_lookouts, 8 _law_digit, 9 _law_shortest, 10 _law_longest -/
def l1_d_law_fan : SM :=
    (sSeq (sEff (bMeth1 (pN 4) (mLst (mCons (mC (D.int 0)) (mCons (mP (mV 5)) mNil))) opAppend))
    (sSeq (sEff (bMeth1 (pN 4) (mLst (mCons (mP (mV 5)) (mCons (mOp subD (mV 2) (mC (D.int 1))) mNil))) opAppend))
    (sKill [5] (sIf (mT (mOp gtD (mV 5) (mC (D.int 1))))
    (sEff (bMeth1 (pN 4) (mLst (mCons (mOp subD (mV 5) (mC (D.int 1))) (mCons (mP (mV 5)) mNil))) opAppend))
    sNx))))
def l2_d_law_fan : SM :=
    (sSeq (sAsg 8 (mCall intD (mCons (mOp subscr (mV 1) (mOp addD (mC (D.int 10)) (mV 5))) mNil)))
    (sSeq (sAsg 9 (mOp addD (mC (D.int 1)) (mOp modD (mOp fdivD (mV 8) (mC (D.int 9))) (mC (D.int 3)))))
    (sSeq (sAsg 10 (mOp addD (mV 9) (mOp modD (mOp fdivD (mV 8) (mC (D.int 27))) (mC (D.int 5)))))
    (sSeq (sIf (mT (mOp eqD (mOp modD (mV 8) (mC (D.int 9))) (mC (D.int 1))))
    (sAsg 10 (mC D.non))
    sNx)
    (sKill [8, 5, 10, 9] (sIf (mT (mOp gtD (mOp modD (mV 8) (mC (D.int 9))) (mC (D.int 0))))
    (sFrz 10 (sEff (bMeth1 (pN 6) (mLst (mCons (mP (mOp subscr (mV 3) (mOp subscr (mOp subscr (mV 4) (mV 5)) (mC (D.int 0))))) (mCons (mP (mOp subscr (mV 3) (mOp subscr (mOp subscr (mV 4) (mV 5)) (mC (D.int 1))))) (mCons (mP (mV 9)) (mCons (mP (mV 10)) mNil))))) opAppend)))
    sNx))))))
def c3_d_law_fan : Ev → D → Option (Option D) :=
    lcItem (tgN 5) mYes (mOp eqD (mOp modD (mCall intD (mCons (mOp subscr (mV 1) (mOp addD (mC (D.int 30)) (mV 5))) mNil)) (mC (D.int 4))) (mC (D.int 0)))
def c4_d_law_fan : Ev → D → Option (Option D) :=
    lcItem (tgN 5) mYes (mOp addD (mC (D.int 1)) (mOp modD (mCall intD (mCons (mOp subscr (mV 1) (mOp addD (mC (D.int 35)) (mV 5))) mNil)) (mC (D.int 2))))
def b_d_law_fan : SM :=
    (sSeq (sAsg 2 (mOp addD (mC (D.int 4)) (mOp modD (mCall intD (mCons (mOp subscr (mV 1) (mC (D.int 0))) mNil)) (mC (D.int 2)))))
    (sSeq (sAsg 3 (mPos f_d_law_names (mCons (mSl (mV 1) (mOSome (mC (D.int 1))) (mOSome (mC (D.int 6)))) (mCons (mV 2) mNil))))
    (sSeq (sAsg 4 (mLst mNil))
    (sSeq (sFor (mRng2 (mCons (mC (D.int 1)) (mCons (mOp subD (mV 2) (mC (D.int 1))) mNil))) (tgN 5) l1_d_law_fan)
    (sSeq (sAsg 6 (mLst mNil))
    (sSeq (sKill [4] (sFor (mRng1 (mCons (mCall lenD (mCons (mV 4) mNil)) mNil)) (tgN 5) l2_d_law_fan))
    (sSeq (sAsg 7 (mLcN (mRng1 (mCons (mV 2) mNil)) c3_d_law_fan [5]))
    (sFrz 6 (sFrz 7 (sFrz 3 (sRet (mLst (mCons (mP (mOp subscr (mV 0) (mC (D.int 0)))) (mCons (mP (mV 3)) (mCons (mP (mV 7)) (mCons (mLcN (mRng1 (mCons (mV 2) mNil)) c4_d_law_fan [5]) (mCons (mP (mV 6)) mNil)))))))))))))))))
def f_d_law_fan : List D → Option (D × Ev) := runF 2 11 b_d_law_fan
/- 0 _law_case_here, 1 _law_source, 2 _law_target, 3 _law_asleep, 4 _law_totals, 5 _law_name, 6 _law_turn, 7 _law_line -/
def l1_d_law_total : SM :=
    (sKill [5] (sPut (pN 4) (mV 5) (mOp powD (mC (D.int 10)) (mC (D.int 6)))))
def l2_d_law_total : SM :=
    (sKill [7] (sIf (mAnd (mT (mOp notND (mOp subscr (mV 7) (mC (D.int 3))) (mC D.non))) (mT (mOp ninD (mOp subscr (mV 7) (mC (D.int 1))) (mV 3))))
    (sPut (pN 4) (mOp subscr (mV 7) (mC (D.int 1))) (mCall minD (mCons (mLst (mCons (mP (mOp subscr (mV 4) (mOp subscr (mV 7) (mC (D.int 1))))) (mCons (mOp addD (mOp subscr (mV 4) (mOp subscr (mV 7) (mC (D.int 0)))) (mOp subscr (mV 7) (mC (D.int 3)))) mNil))) mNil)))
    sNx))
def l3_d_law_total : SM :=
    (sKill [6] (sFor (mItems' (mP (mOp subscr (mV 0) (mC (D.int 4))))) (tgN 7) l2_d_law_total))
def b_d_law_total : SM :=
    (sSeq (sAsg 4 (mC (D.dct true [] [])))
    (sSeq (sFor (mItems' (mP (mOp subscr (mV 0) (mC (D.int 1))))) (tgN 5) l1_d_law_total)
    (sSeq (sKill [1] (sPut (pN 4) (mV 1) (mC (D.int 0))))
    (sSeq (sKill [3, 0] (sFor (mRng1 (mCons (mCall lenD (mCons (mOp subscr (mV 0) (mC (D.int 1))) mNil)) mNil)) (tgN 6) l3_d_law_total))
    (sRet (mP (mOp subscr (mV 4) (mV 2))))))))
def f_d_law_total : List D → Option (D × Ev) := runF 4 8 b_d_law_total
/- 0 network, 1 names, 2 name, 3 result, 4 seen, 5 viewer, 6 least, 7 most -/
def l1_d_lookouts_only : SM :=
    (sKill [2] (sExp (mPos f_m_Network_need_keeper (mRecv 0 "need_keeper" (mV 0) (mCons (mV 2) mNil)))))
def l2_d_lookouts_only : SM :=
    (sKill [2] (sEff (mLendM f_m_Network_add_keeper 0 "add_keeper" [.p 1, .k 0, .k 1] [] (pN 3) (mCons (mV 2) mNil) (mCons (mOp inD (mV 2) (mV 1)) (mCons (mPos f_m_Network_need_of (mRecv 0 "need_of" (mV 0) (mCons (mV 2) mNil))) mNil)))))
def l3_d_lookouts_only : SM :=
    (sKill [6, 7, 4, 5] (sEff (mLendM f_m_Network_add_line 0 "add_line" [.p 1, .p 2, .k 0, .k 1] [] (pN 3) (mCons (mV 4) (mCons (mV 5) mNil)) (mCons (mV 6) (mCons (mV 7) mNil)))))
def b_d_lookouts_only : SM :=
    (sSeq (sFor (mItems' (mP (mV 1))) (tgN 2) l1_d_lookouts_only)
    (sSeq (sAsg 3 (mMake f_m_Network_ddinit 0 (mCons (mFld 0 "dawn" (mV 0)) mNil)))
    (sSeq (sKill [1] (sFor (mOwnIt 0 "names" (mP (mV 0))) (tgN 2) l2_d_lookouts_only))
    (sSeq (sKill [0] (sFor (mItems' (mPos f_m_Network_lines (mRecv 0 "lines" (mV 0) mNil))) (tgTup 4 (tgCons (tgN 4) (tgCons (tgN 5) (tgCons (tgN 6) (tgCons (tgN 7) tgNil))))) l3_d_lookouts_only))
    (sRetV 3)))))
def f_d_lookouts_only : List D → Option (D × Ev) := runF 2 8 b_d_lookouts_only
/- 0 network, 1 source, 2 target, 3 log -/
def b_d_plan : SM :=
    (sSeq (sKill [0] (sAsg 3 (mMake f_m_Log_ddinit 1 (mCons (mPos f_d_lookouts_only (mCons (mV 0) (mCons (mLst (mCons (mP (mV 1)) mNil)) mNil))) mNil))))
    (sSeq (sEff (mLendM f_m_Log_note 1 "note" [.p 1, .c 0, .k 0] [(D.int 0)] (pN 3) (mCons (mV 1) mNil) (mCons (mC (D.int 0)) mNil)))
    (sSeq (sKill [1] (sEff (mLendM f_m_Log_trust 1 "trust" [.p 1] [] (pN 3) (mCons (mV 1) mNil) mNil)))
    (sSeq (sKill [2] (sEff (mLendM f_m_Log_trust 1 "trust" [.p 1] [] (pN 3) (mCons (mV 2) mNil) mNil)))
    (sRetV 3)))))
def f_d_plan : List D → Option (D × Ev) := runF 3 4 b_d_plan
/- 0 _law_names_here, 1 _law_limit, 2 _law_sets, 3 _law_last, 4 _law_size, 5 _law_longer, 6 _law_pair, 7 _law_k -/
def l1_d_law_choices : SM :=
    (sKill [7] (sEff (bMeth1 (pN 5) (mLst (mCons (mOp addD (mV 7) (mC (D.int 1))) (mCons (mOp addD (mOp subscr (mV 6) (mC (D.int 1))) (mLst (mCons (mP (mOp subscr (mV 0) (mV 7))) mNil))) mNil))) opAppend)))
def l2_d_law_choices : SM :=
    (sKill [6] (sFor (mRng2 (mCons (mOp subscr (mV 6) (mC (D.int 0))) (mCons (mCall lenD (mCons (mV 0) mNil)) mNil))) (tgN 7) l1_d_law_choices))
def l3_d_law_choices : SM :=
    (sKill [6] (sEff (bMeth1 (pN 2) (mP (mOp subscr (mV 6) (mC (D.int 1)))) opAppend)))
def l4_d_law_choices : SM :=
    (sKill [4] (sSeq (sAsg 5 (mLst mNil))
    (sSeq (sFrz 3 (sKill [3] (sFor (mItems' (mP (mV 3))) (tgN 6) l2_d_law_choices)))
    (sSeq (sFrz 5 (sFor (mItems' (mP (mV 5))) (tgN 6) l3_d_law_choices))
    (sKill [5] (sAsg 3 (mCall lstD (mCons (mV 5) mNil))))))))
def b_d_law_choices : SM :=
    (sSeq (sAsg 2 (mLst (mCons (mLst mNil) mNil)))
    (sSeq (sAsg 3 (mLst (mCons (mLst (mCons (mC (D.int 0)) (mCons (mLst mNil) mNil))) mNil)))
    (sSeq (sKill [3, 1, 0] (sFor (mRng1 (mCons (mV 1) mNil)) (tgN 4) l4_d_law_choices))
    (sRetV 2))))
def f_d_law_choices : List D → Option (D × Ev) := runF 2 8 b_d_law_choices
/- 0 _law_network_here, 1 _law_case_here, 2 _law_k, 3 _law_name, 4 _law_line -/
def l1_d_law_same_v2 : SM :=
    (sSeq (sAsg 3 (mP (mOp subscr (mOp subscr (mV 1) (mC (D.int 1))) (mV 2))))
    (sKill [2, 3] (sIf (mOr (mT (mOp neD (mPos f_m_Network_is_lookout (mRecv 0 "is_lookout" (mV 0) (mCons (mV 3) mNil))) (mOp subscr (mOp subscr (mV 1) (mC (D.int 2))) (mV 2)))) (mT (mOp neD (mPos f_m_Network_need_of (mRecv 0 "need_of" (mV 0) (mCons (mV 3) mNil))) (mOp subscr (mOp subscr (mV 1) (mC (D.int 3))) (mV 2)))))
    (sRet (mC (D.bl false)))
    sNx)))
def c2_d_law_same_v2 : Ev → D → Option (Option D) :=
    lcItem (tgN 4) mYes (mCall tupleD (mCons (mV 4) mNil))
def b_d_law_same_v2 : SM :=
    (sSeq (sIf (mOr (mT (mOp neD (mFld 0 "dawn" (mV 0)) (mOp subscr (mV 1) (mC (D.int 0))))) (mOr (mT (mOp neD (mCall (lstF 0 "names") (mCons (mV 0) mNil)) (mOp subscr (mV 1) (mC (D.int 1))))) (mT (mOp neD (mCall (lenF 0 "names") (mCons (mV 0) mNil)) (mCall lenD (mCons (mOp subscr (mV 1) (mC (D.int 1))) mNil))))))
    (sRet (mC (D.bl false)))
    sNx)
    (sSeq (sFor (mRng1 (mCons (mCall lenD (mCons (mOp subscr (mV 1) (mC (D.int 1))) mNil)) mNil)) (tgN 2) l1_d_law_same_v2)
    (sRet (mOp eqD (mPos f_m_Network_lines (mRecv 0 "lines" (mV 0) mNil)) (mLcN (mItems' (mP (mOp subscr (mV 1) (mC (D.int 4))))) c2_d_law_same_v2 [4])))))
def f_d_law_same_v2 : List D → Option (D × Ev) := runF 2 5 b_d_law_same_v2
/- 0 word, 1 char -/
def l1_d_number_of : SM :=
    (sKill [1] (sIf (mT (mOp ninD (mV 1) (mC (D.str "0123456789"))))
    (sRet (mC D.non))
    sNx))
def b_d_number_of : SM :=
    (sSeq (sIf (mOr (mNot (mT (mCh leD leD (mC (D.int 1)) (mCall lenD (mCons (mV 0) mNil)) (mC (D.int 3))))) (mAnd (mT (mOp gtD (mCall lenD (mCons (mV 0) mNil)) (mC (D.int 1)))) (mT (mOp eqD (mOp subscr (mV 0) (mC (D.int 0))) (mC (D.str "0"))))))
    (sRet (mC D.non))
    sNx)
    (sSeq (sFor (mItems' (mP (mV 0))) (tgN 1) l1_d_number_of)
    (sRet (mCall intD (mCons (mV 0) mNil)))))
def f_d_number_of : List D → Option (D × Ev) := runF 1 2 b_d_number_of
end VI
set_option Elab.async false
set_option linter.all false
set_option maxRecDepth 100000
set_option autoImplicit false
/-! VLog: logs as Lean data, their trees, what the methods of Network and Log do. -/
namespace VI
open PySem L2
/-! ### Network.copy -/
theorem copy_ap {N : Net} {b : Bool} (ok : N.Ok) (hm : N.lines.length < 1000) : ap f_m_Network_copy [netD b N] = some (netD true N) := by
  have hi := init_ap N.dawn ok.d1 ok.d100
  have e0 : netD true (Net.new N.dawn) = netD true { N with names := N.names.take 0, lines := [] } := netD_congr rfl (by simp [Net.new]) (by simp [Net.new]) rfl
  rw [e0] at hi
  refine ap_run rfl ?_ (by simp)
  simp only [env0, b_m_Network_copy]
  simp [hi]
  generalize hF : forB _ _ _ _ = o
  have := for_detS hF (fun i => [(1, some (netD true { N with names := N.names.take i, lines := [] }))]) rfl (fun i s hs => by
    have ms := List.mem_of_getElem? hs
    exact .inl (by simp [l1_m_Network_copy, ms, addK_ap ok hs]))
  subst this
  simp [lines_ap ok.prs hm]
  generalize hF : forB _ _ _ _ = o
  have := for_detS hF (fun i => [(1, some (netD true { N with lines := N.lines.take i }))]) rfl (fun i l hl => by
    exact .inl (by simp [l2_m_Network_copy, Line.tup, tgTup, tgCons, tgNil, addL_ap ok hl hm]))
  subst this
  simp
/-! ### logs -/
structure LogS where
  net : Net
  lo : Str → Int
  hi : Str → Int
  tr : Str → Bool
abbrev logF : List Str := ["network", "windows", "trusted"]
def log3 (b : Bool) (n w t : D) : D := .obj b 1 logF [n, w, t]
def winD (b : Bool) (ks : List Str) (lo hi : Str → Int) : D := .dct b (ks.map kS) (ks.map fun s => .tup [.int (lo s), .int (hi s)])
def blsT (b : Bool) (ks : List Str) (tr : Str → Bool) : D := .dct b (ks.map kS) (ks.map fun s => .bl (tr s))
def logD (b : Bool) (L : LogS) : D := log3 b (netD b L.net) (winD b L.net.names L.lo L.hi) (blsT b L.net.names L.tr)
section
variable {b c : Bool} {ks : List Str} {lo hi : Str → Int} {tr : Str → Bool} {s : Str} {L : LogS} {n w t e : D} {i : Nat} {π : List Nat}
@[simp] theorem win_frz : (winD b ks lo hi).frz = winD false ks lo hi := by simp [winD]
@[simp] theorem win_plain : (winD b ks lo hi).plain = !b := rfl
@[simp] theorem win_clean : (winD b ks lo hi).clean = b := by simp [winD]
@[simp] theorem blsT_frz : (blsT b ks tr).frz = blsT false ks tr := by simp [blsT]
@[simp] theorem blsT_plain : (blsT b ks tr).plain = !b := rfl
@[simp] theorem blsT_clean : (blsT b ks tr).clean = b := by simp [blsT]
theorem win_sub (h : s ∈ ks) : subscr (winD b ks lo hi) (.str s) = some (.tup [.int (lo s), .int (hi s)]) := by simp [winD, h]
theorem blsT_sub (h : s ∈ ks) : subscr (blsT b ks tr) (.str s) = some (.bl (tr s)) := by simp [blsT, h]
@[simp] theorem win_keys : keysOf (winD false ks lo hi) = some (ks.map D.str) := by simp [winD]; exact fun _ _ => rfl
@[simp] theorem logD_frz : (logD b L).frz = logD false L := by simp [logD, log3]
@[simp] theorem logD_plain : (logD b L).plain = !b := rfl
@[simp] theorem logD_clean : (logD b L).clean = b := by cases b <;> simp [logD, log3]
theorem logD_obj {m : Str} (h : m ∉ logF) : isObj 1 m (logD b L) = true := by
  unfold logD log3 isObj
  simp only [decide_true, Bool.true_and, decide_eq_true_eq]; exact h
@[simp] theorem ol_window : isObj 1 "window" (logD b L) = true := logD_obj (by decide +kernel)
@[simp] theorem ol_note : isObj 1 "note" (logD b L) = true := logD_obj (by decide +kernel)
@[simp] theorem ol_note_all : isObj 1 "note_all" (logD b L) = true := logD_obj (by decide +kernel)
@[simp] theorem ol_forget : isObj 1 "forget" (logD b L) = true := logD_obj (by decide +kernel)
@[simp] theorem ol_trust : isObj 1 "trust" (logD b L) = true := logD_obj (by decide +kernel)
@[simp] theorem ol_is_trusted : isObj 1 "is_trusted" (logD b L) = true := logD_obj (by decide +kernel)
@[simp] theorem ol_copy : isObj 1 "copy" (logD b L) = true := logD_obj (by decide +kernel)
theorem idx_network : List.idxOf? ("network" : Str) logF = some 0 := by decide +kernel
theorem idx_windows : List.idxOf? ("windows" : Str) logF = some 1 := by decide +kernel
theorem idx_trusted : List.idxOf? ("trusted" : Str) logF = some 2 := by decide +kernel
@[simp] theorem f3_network : fldD 1 "network" (log3 b n w t) = some n := fld_at 0 idx_network rfl
@[simp] theorem f3_windows : fldD 1 "windows" (log3 b n w t) = some w := fld_at 1 idx_windows rfl
@[simp] theorem f3_trusted : fldD 1 "trusted" (log3 b n w t) = some t := fld_at 2 idx_trusted rfl
@[simp] theorem p3_network : pFldD 1 "network" (i, π, log3 true n w t) = some (i, π ++ [0], n) := pfld_at 0 idx_network
@[simp] theorem p3_windows : pFldD 1 "windows" (i, π, log3 true n w t) = some (i, π ++ [1], w) := pfld_at 1 idx_windows
@[simp] theorem p3_trusted : pFldD 1 "trusted" (i, π, log3 true n w t) = some (i, π ++ [2], t) := pfld_at 2 idx_trusted
@[simp] theorem s3_0 : setP (log3 true n w t) (0 :: π) e = log3 true (setP n π e) w t := (rfl)
@[simp] theorem s3_1 : setP (log3 true n w t) (1 :: π) e = log3 true n (setP w π e) t := (rfl)
@[simp] theorem s3_2 : setP (log3 true n w t) (2 :: π) e = log3 true n w (setP t π e) := (rfl)
@[simp] theorem lf_network : fldD 1 "network" (logD b L) = some (netD b L.net) := f3_network
@[simp] theorem lf_windows : fldD 1 "windows" (logD b L) = some (winD b L.net.names L.lo L.hi) := f3_windows
@[simp] theorem lf_trusted : fldD 1 "trusted" (logD b L) = some (blsT b L.net.names L.tr) := f3_trusted
@[simp] theorem lp_network : pFldD 1 "network" (i, π, logD true L) = some (i, π ++ [0], netD true L.net) := p3_network
@[simp] theorem lp_windows : pFldD 1 "windows" (i, π, logD true L) = some (i, π ++ [1], winD true L.net.names L.lo L.hi) := p3_windows
@[simp] theorem lp_trusted : pFldD 1 "trusted" (i, π, logD true L) = some (i, π ++ [2], blsT true L.net.names L.tr) := p3_trusted
end
/-- a function with another value at a place -/
def put {α : Type} (f : Str → α) (s : Str) (v : α) : Str → α := fun x => if x = s then v else f x
@[simp] theorem put_same {α : Type} {f : Str → α} {s : Str} {v : α} : put f s v s = v := by simp [put]
theorem put_ne {α : Type} {f : Str → α} {s x : Str} {v : α} (h : x ≠ s) : put f s v x = f x := by simp [put, h]
def LogS.new (N : Net) : LogS := ⟨N, fun _ => 0, fun _ => N.dawn, fun _ => false⟩
def LogS.narrow (L : LogS) (s : Str) (l h : Int) : LogS := { L with lo := put L.lo s l, hi := put L.hi s h }
def LogS.trust (L : LogS) (s : Str) : LogS := { L with tr := put L.tr s true }
structure LogS.Ok (L : LogS) : Prop where
  net : L.net.Ok
  l0 : ∀ s ∈ L.net.names, 0 ≤ L.lo s
  lh : ∀ s ∈ L.net.names, L.lo s ≤ L.hi s
  hd : ∀ s ∈ L.net.names, L.hi s ≤ L.net.dawn
theorem logD_congr {b : Bool} {L M : LogS} (h0 : L.net = M.net) (h1 : ∀ s ∈ L.net.names, L.lo s = M.lo s ∧ L.hi s = M.hi s ∧ L.tr s = M.tr s) : logD b L = logD b M := by
  unfold logD winD blsT
  rw [← h0]
  congr 2
  · exact List.map_congr_left fun s hs => by rw [(h1 s hs).1, (h1 s hs).2.1]
  · exact List.map_congr_left fun s hs => by rw [(h1 s hs).2.2]
theorem LogS.new_ok {N : Net} (ok : N.Ok) : (LogS.new N).Ok := ⟨ok, fun _ _ => Int.le_refl _, fun _ _ => by have := ok.d1; show (0 : Int) ≤ N.dawn; omega, fun _ _ => Int.le_refl _⟩
/-- a dict's value at a key that is there -/
theorem dct_reput {ks : List Str} {f : Str → D} {s : Str} {d : D} (nd : ks.Nodup) (h : s ∈ ks) (hl : ks.length < 1000000) : putKey (.dct true (ks.map kS) (ks.map f)) (.str s) d = some (.dct true (ks.map kS) (ks.map fun x => if x = s then d else f x)) := by
  obtain ⟨j, hj⟩ := idx_some h
  have hx : ixOf ks s = some j := hj
  have hk : ixOf (ks.map kS) (kS s) = some j := by rw [ix_kS]; exact hx
  obtain ⟨e1, e2⟩ := idx_set f d nd hj
  show (keyD (.str s)).bind (fun k => if (ks.map kS).length < 1000000 then (putO (ks.map kS) (ks.map f) k d).map fun r => D.dct true r.1 r.2 else none) = _
  rw [keyD_str, Option.bind_some, if_pos (by simpa using hl)]
  have hp : putO (ks.map kS) (ks.map f) (kS s) d = some (ks.map kS, (ks.map f).set j d) := by
    unfold putO
    unfold ixOf at hk
    rw [hk]
    simp only [nodup_kS nd, if_true]
  rw [hp, e2]; rfl
theorem win_put {ks : List Str} {lo hi : Str → Int} {s : Str} {l h : Int} (nd : ks.Nodup) (hs : s ∈ ks) (hl : ks.length < 1000000) : putKey (winD true ks lo hi) (.str s) (.tup [.int l, .int h]) = some (winD true ks (put lo s l) (put hi s h)) := by
  unfold winD
  rw [dct_reput nd hs hl]
  congr 2
  exact List.map_congr_left fun x _ => by by_cases e : x = s <;> simp [put, e]
theorem blsT_put {ks : List Str} {tr : Str → Bool} {s : Str} {v : Bool} (nd : ks.Nodup) (hs : s ∈ ks) (hl : ks.length < 1000000) : putKey (blsT true ks tr) (.str s) (.bl v) = some (blsT true ks (put tr s v)) := by
  unfold blsT
  rw [dct_reput nd hs hl]
  congr 2
  exact List.map_congr_left fun x _ => by by_cases e : x = s <;> simp [put, e]
section
variable {b : Bool} {L : LogS} {N : Net} {s : Str}
theorem dc_mapS {α : Type} {c : D → Option (Option (Key × D))} {enc : α → D} {xs : List α} {o : Option (List (Key × D))} (hG : dcRun c (xs.map enc) = o) (k : α → Key) (f : α → D) (h : ∀ x ∈ xs, c (enc x) = some (some (k x, f x))) : o = some (xs.map fun x => (k x, f x)) := by
  rw [← hG]; exact dc_map enc k f xs h
theorem putT_1 {x : D} : putT [] [] (Str.ofString "network") x = ([Str.ofString "network"], [x]) := rfl
theorem putT_2 {x y : D} : putT [Str.ofString "network"] [x] (Str.ofString "windows") y = ([Str.ofString "network", Str.ofString "windows"], [x, y]) := by
  unfold putT
  rw [show List.idxOf? (Str.ofString "windows") [Str.ofString "network"] = none from by decide +kernel]; rfl
theorem putT_3 {x y z : D} : putT [Str.ofString "network", Str.ofString "windows"] [x, y] (Str.ofString "trusted") z = ([Str.ofString "network", Str.ofString "windows", Str.ofString "trusted"], [x, y, z]) := by
  unfold putT
  rw [show List.idxOf? (Str.ofString "trusted") [Str.ofString "network", Str.ofString "windows"] = none from by decide +kernel]; rfl
theorem putT_w {x y z w : D} : putT [Str.ofString "network", Str.ofString "windows", Str.ofString "trusted"] [x, y, z] (Str.ofString "windows") w = ([Str.ofString "network", Str.ofString "windows", Str.ofString "trusted"], [x, w, z]) := by
  unfold putT
  rw [show List.idxOf? (Str.ofString "windows") [Str.ofString "network", Str.ofString "windows", Str.ofString "trusted"] = some 1 from by decide +kernel]; rfl
theorem putT_t {x y z w : D} : putT [Str.ofString "network", Str.ofString "windows", Str.ofString "trusted"] [x, y, z] (Str.ofString "trusted") w = ([Str.ofString "network", Str.ofString "windows", Str.ofString "trusted"], [x, y, w]) := by
  unfold putT
  rw [show List.idxOf? (Str.ofString "trusted") [Str.ofString "network", Str.ofString "windows", Str.ofString "trusted"] = some 2 from by decide +kernel]; rfl
theorem log_init_ap {e : Bool} (ok : N.Ok) (hm : N.lines.length < 1000) : apM f_m_Log_ddinit 1 [netD e N] = some (logD true (LogS.new N)) := by
  have hl := ok.len
  have hll : N.names.length ≤ 100000 := by omega
  have nd := nodup_kS ok.nd
  refine apM_run (apL_run rfl ?_) (by simp)
  simp only [env0, b_m_Log_ddinit]
  simp [copy_ap ok hm, putT_1, hll]
  generalize hG : dcRun _ _ = o
  have := dc_mapS hG kS (fun _ => D.tup [.int 0, .int N.dawn]) (fun s hs => by simp [c1_m_Log_ddinit, wipeA])
  subst this
  clear hG
  simp [putT_2, nd, Function.comp_def, hll]
  generalize hG : dcRun _ _ = o
  have := dc_mapS hG kS (fun _ => D.bl false) (fun s hs => by simp [c2_m_Log_ddinit, wipeA])
  subst this
  clear hG
  simp [putT_3, nd, Function.comp_def]
  simp [logD, log3, winD, blsT, LogS.new]
theorem window_ap (h : s ∈ L.net.names) : ap f_m_Log_window [logD b L, .str s] = some (.tup [.int (L.lo s), .int (L.hi s)]) :=
  ap_run rfl (by simp [env0, b_m_Log_window, need_keeper_ap h, win_sub h]) (by simp)
theorem is_trusted_ap (h : s ∈ L.net.names) : ap f_m_Log_is_trusted [logD b L, .str s] = some (.bl (L.tr s)) :=
  ap_run rfl (by simp [env0, b_m_Log_is_trusted, need_keeper_ap h, blsT_sub h]) (by simp)
theorem note_ap {l : Int} {h : Option Int} (ok : L.net.Ok) (hs : s ∈ L.net.names) (l0 : 0 ≤ l) (l1 : l ≤ L.net.dawn) (h0 : 0 ≤ h.getD L.net.dawn) (h1 : h.getD L.net.dawn ≤ L.net.dawn) (hw : max l (L.lo s) ≤ min (h.getD L.net.dawn) (L.hi s)) :
    apL 0 f_m_Log_note [logD true L, .str s, .int l, optD h] = some (.non, logD true (L.narrow s (max l (L.lo s)) (min (h.getD L.net.dawn) (L.hi s)))) := by
  have hlen := ok.len
  have p := win_put (lo := L.lo) (hi := L.hi) (l := max l (L.lo s)) (h := min (h.getD L.net.dawn) (L.hi s)) ok.nd hs (by omega)
  have e : logD true (L.narrow s (max l (L.lo s)) (min (h.getD L.net.dawn) (L.hi s))) = log3 true (netD true L.net) (winD true L.net.names (put L.lo s (max l (L.lo s))) (put L.hi s (min (h.getD L.net.dawn) (L.hi s)))) (blsT true L.net.names L.tr) := rfl
  have hw' : ¬ min (h.getD L.net.dawn) (L.hi s) < max l (L.lo s) := by omega
  refine apL_run rfl ?_
  rw [e]
  cases h with
  | none =>
    simp only [Option.getD_none] at *
    simp [env0, b_m_Log_note, need_keeper_ap hs, l0, l1, h0, h1, win_sub hs, hw', tgTup, tgCons, tgNil, p]
    simp [logD]
  | some h =>
    simp only [Option.getD_some] at *
    simp [env0, b_m_Log_note, need_keeper_ap hs, l0, l1, h0, h1, win_sub hs, hw', tgTup, tgCons, tgNil, p]
    simp [logD]
theorem forget_ap (ok : L.net.Ok) (hs : s ∈ L.net.names) : apL 0 f_m_Log_forget [logD true L, .str s] = some (.non, logD true (L.narrow s 0 L.net.dawn)) := by
  have hlen := ok.len
  have p := win_put (lo := L.lo) (hi := L.hi) (l := 0) (h := L.net.dawn) ok.nd hs (by omega)
  refine apL_run rfl ?_
  simp [env0, b_m_Log_forget, need_keeper_ap hs, p]
  simp [logD, LogS.narrow]
theorem trust_ap (ok : L.net.Ok) (hs : s ∈ L.net.names) : apL 0 f_m_Log_trust [logD true L, .str s] = some (.non, logD true (L.trust s)) := by
  have hlen := ok.len
  have p := blsT_put (tr := L.tr) (v := true) ok.nd hs (by omega)
  refine apL_run rfl ?_
  simp [env0, b_m_Log_trust, need_keeper_ap hs, p]
  simp [logD, LogS.trust]
theorem log_copy_ap (ok : L.net.Ok) (hm : L.net.lines.length < 1000) : ap f_m_Log_copy [logD b L] = some (logD true L) := by
  have d1 : dictD [winD false L.net.names L.lo L.hi] = some (winD true L.net.names L.lo L.hi) := by
    unfold winD
    show (if D.plainL _ = true then _ else _) = _
    rw [if_pos (by simp)]
  have d2 : dictD [blsT false L.net.names L.tr] = some (blsT true L.net.names L.tr) := by
    unfold blsT
    show (if D.plainL _ = true then _ else _) = _
    rw [if_pos (by simp)]
  refine ap_run rfl ?_ (by simp)
  simp [env0, b_m_Log_copy, log_init_ap ok hm, d1, d2]
  have q : ∀ (n w t : D), fldD 1 (Str.ofString "trusted") (D.obj false 1 logF [n, w, t]) = some t := fun n w t => f3_trusted
  simp [logD, log3, putT_w, putT_t, LogS.new, q, d2]
def rowD (lo hi : Str → Int) (s : Str) : D := .tup [.str s, .tup [.int (lo s), .int (hi s)]]
@[simp] theorem rowD_frz {lo hi : Str → Int} : (rowD lo hi s).frz = rowD lo hi s := by simp [rowD]
@[simp] theorem rowD_plain {lo hi : Str → Int} : (rowD lo hi s).plain = true := by simp [rowD]
@[simp] theorem rowD_clean {lo hi : Str → Int} : (rowD lo hi s).clean = true := by simp [rowD]
theorem lst_log (h : L.net.names.length ≤ 8) : lstItmF 1 "windows" [logD b L] = some (.lst true (L.net.names.map (rowD L.lo L.hi))) := by
  have e : fldK 1 "windows" (logD b L) = some (L.net.names.map kS, L.net.names.map fun s => .tup [.int (L.lo s), .int (L.hi s)]) := by
    have e := lf_windows (b := b) (L := L)
    unfold logD log3 at e ⊢
    unfold fldD at e
    simp only [fldK, if_true] at e ⊢
    rw [e]; rfl
  have hl : L.net.names.length ≤ 100000 := by omega
  simp only [lstItmF, e, Option.bind_some]
  simp [hl]
  unfold itmsD
  generalize L.net.names = ns
  induction ns with
  | nil => rfl
  | cons n ns ih =>
    rw [List.map_cons, List.map_cons, List.zip_cons_cons, List.map_cons, List.map_cons, ih]; rfl
theorem rows_fit {lo hi : Str → Int} {n : Nat} {ks : List Str} (h : ∀ s ∈ ks, NameOk s) : D.fitL (n + 2) (ks.map (rowD lo hi)) = true := by
  induction ks with
  | nil => rfl
  | cons k ks ih =>
    rw [List.map_cons]
    simp [rowD, (h k (by simp)).fit, ih fun m hm => h m (by simp [hm])]
theorem rows_ne {lo hi : Str → Int} {b c : Bool} {ks : List Str} (h : ∀ s ∈ ks, NameOk s) : neD (.lst b (ks.map (rowD lo hi))) (.lst c (ks.map (rowD lo hi))) = some (.bl false) := by
  have hf := rows_fit (lo := lo) (hi := hi) (n := 61) h
  rw [neD_ll hf hf, sameL_refl hf]; rfl
theorem rows_eq {lo hi : Str → Int} {b c : Bool} {ks : List Str} (h : ∀ s ∈ ks, NameOk s) : eqD (.lst b (ks.map (rowD lo hi))) (.lst c (ks.map (rowD lo hi))) = some (.bl true) := by
  have hf := rows_fit (lo := lo) (hi := hi) (n := 61) h
  rw [eqD_ll hf hf, sameL_refl hf]
end
end VI
set_option Elab.async false
set_option linter.all false
set_option maxRecDepth 100000
set_option autoImplicit false
/-! VText: texts: parts, capital letters, new names. -/
namespace VI
open PySem L2
theorem cutS_mem {s : Str} {lo hi : Option Int} {c : Nat} (h : c ∈ (cutS s lo hi).cps.toList) : c ∈ s.cps.toList := by
  unfold cutS at h
  exact List.mem_of_mem_drop (List.mem_of_mem_take h)
theorem cutS_len {s : Str} {lo hi : Option Int} : (cutS s lo hi).length ≤ s.length := by
  unfold cutS Str.length
  simp
  omega
/-- small letters alone -/
def Low (s : Str) : Prop := ∀ c ∈ s.cps.toList, 97 ≤ c ∧ c ≤ 122
theorem Low.cut {s : Str} (h : Low s) (lo hi : Option Int) : Low (cutS s lo hi) := fun c hc => h c (cutS_mem hc)
theorem Low.app {a b : Str} (h : Low a) (k : Low b) : Low (a ++ b) := fun c hc => by
  rw [str_app_cps] at hc
  exact (List.mem_append.mp hc).elim (h c) (k c)
theorem Low.one {c : Nat} (h : 97 ≤ c ∧ c ≤ 122) : Low ⟨#[c]⟩ := fun d hd => by simp at hd; subst hd; exact h
theorem low_nil : Low (Str.ofString "") := fun c hc => by rw [nil_cps] at hc; cases hc
theorem NameOk.of {s : Str} (h : Low s) (h1 : 1 ≤ s.length) (h8 : s.length ≤ 8) : NameOk s := ⟨h1, h8, h⟩
/-! capital letters -/
theorem upper_low : ∀ c ∈ List.range' 97 26, Unicode.upperOf c = [c - 32] := by decide +kernel
theorem upper_ne {s t : Str} (h : NameOk s) (k : Low t) : Txt.upper s ≠ t := by
  intro e
  have h1 := h.one
  obtain ⟨c, cs, hc⟩ : ∃ c cs, s.cps.toList = c :: cs := by
    cases e : s.cps.toList with
    | nil => unfold Str.length at h1; rw [← Array.length_toList, e] at h1; simp at h1
    | cons c cs => exact ⟨c, cs, rfl⟩
  have hl := h.low c (by rw [hc]; simp)
  have hu := upper_low c (by rw [List.mem_range'_1]; omega)
  have hm : c - 32 ∈ (Txt.upper s).cps.toList := by
    have : (Txt.upper s).cps.toList = (s.cps.toList.map fun c => Unicode.upperOf c).flatten := by
      show (PySem.placed s fun _ c => Unicode.upperOf c).toList = _
      unfold PySem.placed
      rw [Array.toList_flatten, Array.toList_mapIdx]
      congr 1
      simp [List.mapIdx_eq_zipIdx_map, List.map_map, Function.comp_def]
      rw [show (fun x : Nat × Nat => Unicode.upperOf x.1) = (fun c => Unicode.upperOf c) ∘ Prod.fst from rfl, ← List.map_map, List.zipIdx_map_fst]
    rw [this, hc, List.map_cons, List.flatten_cons, hu]
    simp
  rw [e] at hm
  have := k _ hm
  omega
theorem nil_notin {ns : List Str} (h : ∀ s ∈ ns, NameOk s) : Str.ofString "" ∉ ns := fun z => by
  have := (h _ z).one
  rw [nil_len] at this
  omega
end VI
namespace VI
open PySem L2
theorem lenF_net {N : Net} {b : Bool} (h : N.names.length ≤ 8) : lenF 0 "names" [netD b N] = some (.int N.names.length) := by
  have e := fld_names (b := b) (N := N)
  have hl : N.names.length ≤ 100000 := by omega
  have : fldL 0 "names" (netD b N) = some (N.names.map D.str) := by
    unfold netD net6 at e ⊢
    unfold fldD at e
    simp only [fldL, if_true] at e ⊢
    rw [e]; rfl
  simp only [lenF, this, Option.bind_some]
  simp [hl]
/-- a name's place -/
def ixS (names : List Str) (s : Str) : Nat := (names.findIdx? fun x => decide (x = s)).getD 0
theorem ixS_at {names : List Str} {k : Nat} {s : Str} (nd : names.Nodup) (h : names[k]? = some s) : ixS names s = k := by
  have hi := (List.getElem?_eq_some_iff.mp h).1
  have e : names.findIdx? (fun x => decide (x = s)) = some k := by
    rw [List.findIdx?_eq_some_iff_getElem]
    refine ⟨hi, by simp [(List.getElem?_eq_some_iff.mp h).2], fun j hj => ?_⟩
    have hjl : j < names.length := by omega
    simp only [decide_eq_true_eq]
    intro e
    have := L2.nodup_ix nd (List.getElem?_eq_getElem hjl) (e ▸ h)
    omega
  unfold ixS
  rw [e]; rfl
theorem row_get {row : List Int} {k : Nat} {i : Int} (h : k < row.length) (e : i = k) : atI (row.map D.int) i = some (.int (row.getD k 0)) := by
  subst e
  rw [atI_nat (by simpa using h), List.getElem?_map, List.getElem?_eq_getElem h, List.getD_eq_getElem?_getD, List.getElem?_eq_getElem h]; rfl
/-- being among the first of different names -/
theorem mem_take {xs : List Str} {i k : Nat} {s : Str} (nd : xs.Nodup) (h : xs[k]? = some s) : s ∈ xs.take i ↔ k < i := by
  constructor
  · intro hm
    obtain ⟨j, hj⟩ := List.getElem?_of_mem hm
    rw [List.getElem?_take] at hj
    split at hj
    · have := L2.nodup_ix nd hj h
      omega
    · cases hj
  · intro hi
    exact List.mem_of_getElem? (i := k) (by rw [List.getElem?_take, if_pos hi]; exact h)
theorem slice_to {f : Str → D} {b : Bool} {xs : List Str} {k : Nat} (hf : ∀ x, (f x).plain = true) (h : k ≤ xs.length) : sliceD (.lst b (xs.map f)) none (some (k : Int)) = some (.lst true ((xs.take k).map f)) := by
  rw [sliceD_lst, if_pos (plainL_map fun x _ => hf x), cut_to (by simpa using h), List.map_take]
end VI
set_option Elab.async false
set_option linter.all false
set_option maxRecDepth 100000
set_option maxHeartbeats 0
namespace Lk01
open PySem L2 VI
abbrev top (i : Nat) : Stmt := PySem.Challenge.pw_fogbeacons_k01_keepers_in_order.main.body.getD i (.Pass ⟨0, 0, 0, 0⟩)
abbrev s_d_law_row : Stmt := top 17
abbrev s_d_law_cell : Stmt := top 16
abbrev s_m_Network_ddinit : Stmt := inClass (top 14) 0
abbrev s_d_law_near : Stmt := top 18
abbrev s_d_law_name : Stmt := top 19
abbrev s_m_Network_ddcontains : Stmt := inClass (top 14) 3
abbrev s_m_Network_ddlen : Stmt := inClass (top 14) 2
abbrev s_m_Network_dditer : Stmt := inClass (top 14) 1
abbrev s_d_law_holds : Stmt := top 21
abbrev s_d_is_name : Stmt := top 13
abbrev s_m_Network_add_keeper : Stmt := inClass (top 14) 5
abbrev s_d_law_add : Stmt := top 20
abbrev s_d_law_strangers : Stmt := top 22
abbrev s_d_law : Stmt := top 23
/-- the classes -/
def cl (K : PySem.W.Frag) : Nat → Addr
  | 0 => He.ga K "Network"
  | _ => 0
abbrev x_d_law_row : He.DefD := ⟨("_law_row", none), "_law_row", "_law_row", defArgs s_d_law_row, defBody s_d_law_row, defScope s_d_law_row, [], []⟩
abbrev x_d_law_cell : He.DefD := ⟨("_law_cell", none), "_law_cell", "_law_cell", defArgs s_d_law_cell, defBody s_d_law_cell, defScope s_d_law_cell, [], []⟩
abbrev x_m_Network_ddinit : He.DefD := ⟨("Network", some "__init__"), "__init__", "Network.__init__", defArgs s_m_Network_ddinit, defBody s_m_Network_ddinit, defScope s_m_Network_ddinit, [], []⟩
abbrev x_d_law_near : He.DefD := ⟨("_law_near", none), "_law_near", "_law_near", defArgs s_d_law_near, defBody s_d_law_near, defScope s_d_law_near, [], []⟩
abbrev x_d_law_name : He.DefD := ⟨("_law_name", none), "_law_name", "_law_name", defArgs s_d_law_name, defBody s_d_law_name, defScope s_d_law_name, [], []⟩
abbrev x_m_Network_ddcontains : He.DefD := ⟨("Network", some "__contains__"), "__contains__", "Network.__contains__", defArgs s_m_Network_ddcontains, defBody s_m_Network_ddcontains, defScope s_m_Network_ddcontains, [], []⟩
abbrev x_m_Network_ddlen : He.DefD := ⟨("Network", some "__len__"), "__len__", "Network.__len__", defArgs s_m_Network_ddlen, defBody s_m_Network_ddlen, defScope s_m_Network_ddlen, [], []⟩
abbrev x_m_Network_dditer : He.DefD := ⟨("Network", some "__iter__"), "__iter__", "Network.__iter__", defArgs s_m_Network_dditer, defBody s_m_Network_dditer, defScope s_m_Network_dditer, [], []⟩
abbrev x_d_law_holds : He.DefD := ⟨("_law_holds", none), "_law_holds", "_law_holds", defArgs s_d_law_holds, defBody s_d_law_holds, defScope s_d_law_holds, [], []⟩
abbrev x_d_is_name : He.DefD := ⟨("is_name", none), "is_name", "is_name", defArgs s_d_is_name, defBody s_d_is_name, defScope s_d_is_name, [], []⟩
abbrev x_m_Network_add_keeper : He.DefD := ⟨("Network", some "add_keeper"), "add_keeper", "Network.add_keeper", defArgs s_m_Network_add_keeper, defBody s_m_Network_add_keeper, defScope s_m_Network_add_keeper, [], [("lookout", .bl false), ("need", .int 1)]⟩
abbrev x_d_law_add : He.DefD := ⟨("_law_add", none), "_law_add", "_law_add", defArgs s_d_law_add, defBody s_d_law_add, defScope s_d_law_add, [], []⟩
abbrev x_d_law_strangers : He.DefD := ⟨("_law_strangers", none), "_law_strangers", "_law_strangers", defArgs s_d_law_strangers, defBody s_d_law_strangers, defScope s_d_law_strangers, [], []⟩
abbrev x_d_law : He.DefD := ⟨("law", none), "law", "law", defArgs s_d_law, defBody s_d_law, defScope s_d_law, [], []⟩
def fn : List He.DefD := [x_d_law_row, x_d_law_cell, x_m_Network_ddinit, x_d_law_near, x_d_law_name, x_m_Network_ddcontains, x_m_Network_ddlen, x_m_Network_dditer, x_d_law_holds, x_d_is_name, x_m_Network_add_keeper, x_d_law_add, x_d_law_strangers, x_d_law]
def fa : List He.Fa := [.free "abs", .free "int", .free "range", .free "len", .glo "_law_cell", .glo "_law_row", .int "MOST_DAWN" 100, .cls "Network", .noat "Network" "dawn", .noat "Network" "names", .noat "Network" "watches", .noat "Network" "needs", .noat "Network" "spans", .noat "Network" "into", .mkr "Network", .glo "Network", .glo "_law_near", .glo "_law_name", .meth "Network" "__contains__", .free "iter", .meth "Network" "__len__", .meth "Network" "__iter__", .free "list", .glo "_law_holds", .int "MOST_NAME" 8, .str "LETTERS" "abcdefghijklmnopqrstuvwxyz", .glo "is_name", .int "MOST_KEEPERS" 8, .int "MOST_NEED" 8, .meth "Network" "add_keeper", .glo "_law_add", .glo "_law_strangers", .glo "law"]
def us : List (Str × List Str) := []
/-! the pure functions -/
abbrev N_d_law_row : List Str := ["_law_cell_here", "_law_count", "_law_row_here", "_law_rest", "_law_mixed", "_law_k"]
abbrev P_d_law_row : List Str := ["_law_cell_here", "_law_count"]
abbrev N_d_law_cell : List Str := ["_law_script", "_law_k"]
abbrev P_d_law_cell : List Str := ["_law_script", "_law_k"]
abbrev N_m_Network_ddinit : List Str := ["self", "dawn"]
abbrev P_m_Network_ddinit : List Str := ["self", "dawn"]
abbrev N_d_law_near : List Str := ["_law_name_here", "_law_way", "_law_place", "_law_letter", "_law_at"]
abbrev P_d_law_near : List Str := ["_law_name_here", "_law_way", "_law_place", "_law_letter"]
def b_d_law_near : SM :=
    (sSeq (sKill [2] (sAsg 4 (mOp modD (mCall intD (mCons (mV 2) mNil)) (mCall lenD (mCons (mV 0) mNil)))))
    (sSeq (sIf (mT (mOp eqD (mV 1) (mC (D.int 0))))
    (sRet (mOp addD (mOp addD (mSl (mV 0) mONone (mOSome (mV 4))) (mV 3)) (mSl (mV 0) (mOSome (mOp addD (mV 4) (mC (D.int 1)))) mONone)))
    sNx)
    (sSeq (sIf (mT (mOp eqD (mV 1) (mC (D.int 1))))
    (sRet (mOp addD (mV 3) (mV 0)))
    sNx)
    (sSeq (sKill [3, 1] (sIf (mT (mOp eqD (mV 1) (mC (D.int 2))))
    (sRet (mOp addD (mV 0) (mV 3)))
    sNx))
    (sRet (mOp addD (mSl (mV 0) mONone (mOSome (mV 4))) (mSl (mV 0) (mOSome (mOp addD (mV 4) (mC (D.int 1)))) mONone)))))))
def f_d_law_near : List D → Option (D × Ev) := runF 4 5 b_d_law_near
abbrev N_d_law_name : List Str := ["_law_row_here", "_law_names", "_law_letters", "_law_name_here", "_law_at", "_law_letter", "_law_near_here"]
abbrev P_d_law_name : List Str := ["_law_row_here", "_law_names"]
def l1_d_law_name : SM :=
    (sKill [4] (sAsg 3 (mOp addD (mV 3) (mOp subscr (mV 2) (mOp modD (mCall intD (mCons (mOp subscr (mV 0) (mOp addD (mC (D.int 4)) (mV 4))) mNil)) (mC (D.int 26)))))))
def l2_d_law_name : SM :=
    (sKill [5] (sIf (mT (mOp inD (mV 3) (mV 1)))
    (sAsg 3 (mOp mulD (mV 5) (mOp addD (mC (D.int 1)) (mCall lenD (mCons (mV 1) mNil)))))
    sNx))
def b_d_law_name : SM :=
    (sSeq (sAsg 2 (mC (D.str "abcdefghijklmnopqrstuvwxyz")))
    (sSeq (sAsg 3 (mC (D.str "")))
    (sSeq (sFor (mRng1 (mCons (mOp addD (mC (D.int 1)) (mOp modD (mCall intD (mCons (mOp subscr (mV 0) (mC (D.int 1))) mNil)) (mC (D.int 8)))) mNil)) (tgN 4) l1_d_law_name)
    (sSeq (sKill [2, 6, 0] (sIf (mAnd (mT (mOp gtD (mCall lenD (mCons (mV 1) mNil)) (mC (D.int 0)))) (mT (mOp eqD (mOp modD (mCall intD (mCons (mOp subscr (mV 0) (mC (D.int 0))) mNil)) (mC (D.int 2))) (mC (D.int 1)))))
    (sSeq (sAsg 6 (mPos f_d_law_near (mCons (mOp subscr (mV 1) (mOp subD (mCall lenD (mCons (mV 1) mNil)) (mC (D.int 1)))) (mCons (mOp modD (mCall intD (mCons (mOp subscr (mV 0) (mC (D.int 1))) mNil)) (mC (D.int 4))) (mCons (mOp subscr (mV 0) (mC (D.int 2))) (mCons (mOp subscr (mV 2) (mOp modD (mCall intD (mCons (mOp subscr (mV 0) (mC (D.int 3))) mNil)) (mC (D.int 26)))) mNil))))))
    (sIf (mT (mCh leD leD (mC (D.int 1)) (mCall lenD (mCons (mV 6) mNil)) (mC (D.int 8))))
    (sFrz 6 (sAsg 3 (mP (mV 6))))
    sNx))
    sNx))
    (sSeq (sKill [1] (sFor (mItems' (mC (D.str "stuvwxyz"))) (tgN 5) l2_d_law_name))
    (sRetV 3))))))
def f_d_law_name : List D → Option (D × Ev) := runF 2 7 b_d_law_name
abbrev N_m_Network_ddcontains : List Str := ["self", "name"]
abbrev P_m_Network_ddcontains : List Str := ["self", "name"]
abbrev N_m_Network_ddlen : List Str := ["self"]
abbrev P_m_Network_ddlen : List Str := ["self"]
abbrev N_m_Network_dditer : List Str := ["self"]
abbrev P_m_Network_dditer : List Str := ["self"]
abbrev N_d_law_holds : List Str := ["_law_network", "_law_names", "_law_added", "_law_k"]
abbrev P_d_law_holds : List Str := ["_law_network", "_law_names", "_law_added"]
def l1_d_law_holds : SM :=
    (sKill [3] (sIf (mT (mOp neD (mOp (inOwnD 0 f_m_Network_ddcontains false) (mOp subscr (mV 1) (mV 3)) (mV 0)) (mOp ltD (mV 3) (mV 2))))
    (sRet (mC (D.bl false)))
    sNx))
def b_d_law_holds : SM :=
    (sSeq (sIf (mOr (mT (mOp neD (mCall (lenF 0 "names") (mCons (mV 0) mNil)) (mV 2))) (mOr (mT (mOp neD (mCall (lstF 0 "names") (mCons (mV 0) mNil)) (mSl (mV 1) mONone (mOSome (mV 2))))) (mT (mOp neD (mCall (lstF 0 "names") (mCons (mV 0) mNil)) (mSl (mV 1) mONone (mOSome (mV 2)))))))
    (sRet (mC (D.bl false)))
    sNx)
    (sSeq (sKill [2, 1, 0] (sFor (mRng1 (mCons (mCall lenD (mCons (mV 1) mNil)) mNil)) (tgN 3) l1_d_law_holds))
    (sRet (mC (D.bl true)))))
def f_d_law_holds : List D → Option (D × Ev) := runF 3 4 b_d_law_holds
abbrev N_d_is_name : List Str := ["name", "char"]
abbrev P_d_is_name : List Str := ["name"]
abbrev N_m_Network_add_keeper : List Str := ["self", "name", "lookout", "need"]
abbrev P_m_Network_add_keeper : List Str := ["self", "name", "lookout", "need"]
abbrev N_d_law_add : List Str := ["_law_network", "_law_name_here", "_law_row_here", "_law_way", "_law_number", "_law_watch"]
abbrev P_d_law_add : List Str := ["_law_network", "_law_name_here", "_law_row_here"]
def b_d_law_add : SM :=
    (sSeq (sAsg 3 (mOp modD (mCall intD (mCons (mOp subscr (mV 2) (mC (D.int 12))) mNil)) (mC (D.int 4))))
    (sSeq (sAsg 4 (mOp addD (mC (D.int 1)) (mOp modD (mCall intD (mCons (mOp subscr (mV 2) (mC (D.int 13))) mNil)) (mC (D.int 8)))))
    (sSeq (sKill [2] (sAsg 5 (mOp eqD (mOp modD (mOp fdivD (mCall intD (mCons (mOp subscr (mV 2) (mC (D.int 13))) mNil)) (mC (D.int 8))) (mC (D.int 2))) (mC (D.int 1)))))
    (sSeq (sIf (mT (mOp eqD (mV 3) (mC (D.int 0))))
    (sEffR (mLendM f_m_Network_add_keeper 0 "add_keeper" [.p 1, .c 0, .c 1] [(D.bl false), (D.int 1)] (pN 0) (mCons (mV 1) mNil) mNil))
    sNx)
    (sSeq (sIf (mT (mOp eqD (mV 3) (mC (D.int 1))))
    (sEffR (mLendM f_m_Network_add_keeper 0 "add_keeper" [.p 1, .c 0, .k 0] [(D.bl false)] (pN 0) (mCons (mV 1) mNil) (mCons (mV 4) mNil)))
    sNx)
    (sSeq (sKill [3] (sIf (mT (mOp eqD (mV 3) (mC (D.int 2))))
    (sEffR (mLendM f_m_Network_add_keeper 0 "add_keeper" [.p 1, .k 0, .c 0] [(D.int 1)] (pN 0) (mCons (mV 1) mNil) (mCons (mV 5) mNil)))
    sNx))
    (sEffR (mLendM f_m_Network_add_keeper 0 "add_keeper" [.p 1, .k 0, .k 1] [] (pN 0) (mCons (mV 1) mNil) (mCons (mV 5) (mCons (mV 4) mNil))))))))))
def f_d_law_add : List D → Option (D × Ev) := runF 3 6 b_d_law_add
abbrev N_d_law_strangers : List Str := ["_law_network", "_law_names", "_law_added", "_law_row_here", "_law_letter", "_law_name_here", "_law_way", "_law_near_here"]
abbrev P_d_law_strangers : List Str := ["_law_network", "_law_names", "_law_added", "_law_row_here"]
def l1_d_law_strangers : SM :=
    (sSeq (sKill [6] (sAsg 7 (mPos f_d_law_near (mCons (mV 5) (mCons (mV 6) (mCons (mOp subscr (mV 3) (mC (D.int 2))) (mCons (mV 4) mNil)))))))
    (sKill [7] (sIf (mT (mOp neD (mOp (inOwnD 0 f_m_Network_ddcontains false) (mV 7) (mV 0)) (mOp inD (mV 7) (mSl (mV 1) mONone (mOSome (mV 2))))))
    (sRet (mC (D.bl false)))
    sNx)))
def b_d_law_strangers : SM :=
    (sSeq (sAsg 4 (mP (mOp subscr (mC (D.str "abcdefghijklmnopqrstuvwxyz")) (mOp modD (mCall intD (mCons (mOp subscr (mV 3) (mC (D.int 3))) mNil)) (mC (D.int 26))))))
    (sSeq (sAsg 5 (mP (mOp subscr (mV 1) (mOp subD (mV 2) (mC (D.int 1))))))
    (sSeq (sKill [2, 4, 1, 3] (sFor (mRng1 (mCons (mC (D.int 4)) mNil)) (tgN 6) l1_d_law_strangers))
    (sRet (mAndV (mOp (inOwnD 0 f_m_Network_ddcontains true) (mUn upperD (mV 5)) (mV 0)) (mOp (inOwnD 0 f_m_Network_ddcontains true) (mC (D.str "")) (mV 0)))))))
def f_d_law_strangers : List D → Option (D × Ev) := runF 4 8 b_d_law_strangers
abbrev N_d_law : List Str := ["_law_script", "_law_row_here", "_law_count", "_law_network", "_law_other", "_law_rows", "_law_names", "_law_k"]
abbrev P_d_law : List Str := ["_law_script"]
def c1_d_law : Ev → D → Option (Option D) :=
    lcItem (tgN 7) mYes (mPos f_d_law_row (mCons (mOp addD (mPos f_d_law_cell (mCons (mV 0) (mCons (mOp addD (mC (D.int 1)) (mV 7)) mNil))) (mOp mulD (mC (D.int 31)) (mV 7))) (mCons (mC (D.int 14)) mNil)))
def l2_d_law : SM :=
    (sKill [7] (sEff (bMeth1 (pN 6) (mPos f_d_law_name (mCons (mOp subscr (mV 5) (mV 7)) (mCons (mV 6) mNil))) opAppend)))
def l3_d_law : SM :=
    (sSeq (sIfE (tNon true (mLendF f_d_law_add 0 (pN 3) (mHere (pN 3) (mCons (mOp subscr (mV 6) (mV 7)) (mCons (mOp subscr (mV 5) (mV 7)) mNil)))))
    (sRet (mC (D.bl false)))
    sNx)
    (sKill [7] (sIf (mOr (mNot (mTr (mPos f_d_law_holds (mCons (mV 3) (mCons (mV 6) (mCons (mOp addD (mV 7) (mC (D.int 1))) mNil)))))) (mNot (mTr (mPos f_d_law_strangers (mCons (mV 3) (mCons (mV 6) (mCons (mOp addD (mV 7) (mC (D.int 1))) (mCons (mOp subscr (mV 5) (mV 7)) mNil))))))))
    (sRet (mC (D.bl false)))
    sNx)))
def b_d_law : SM :=
    (sSeq (sAsg 1 (mPos f_d_law_row (mCons (mPos f_d_law_cell (mCons (mV 0) (mCons (mC (D.int 0)) mNil))) (mCons (mC (D.int 2)) mNil))))
    (sSeq (sAsg 2 (mOp modD (mCall intD (mCons (mOp subscr (mV 1) (mC (D.int 0))) mNil)) (mC (D.int 9))))
    (sSeq (sAsg 3 (mMake f_m_Network_ddinit 0 (mCons (mOp addD (mC (D.int 1)) (mOp modD (mCall intD (mCons (mOp subscr (mV 1) (mC (D.int 1))) mNil)) (mC (D.int 100)))) mNil)))
    (sSeq (sKill [1] (sAsg 4 (mMake f_m_Network_ddinit 0 (mCons (mOp addD (mC (D.int 1)) (mOp modD (mCall intD (mCons (mOp subscr (mV 1) (mC (D.int 1))) mNil)) (mC (D.int 100)))) mNil))))
    (sSeq (sKill [0] (sAsg 5 (mLcN (mRng1 (mCons (mV 2) mNil)) c1_d_law [7])))
    (sSeq (sAsg 6 (mLst mNil))
    (sSeq (sFrz 5 (sFor (mRng1 (mCons (mV 2) mNil)) (tgN 7) l2_d_law))
    (sSeq (sIf (mOr (mNot (mTr (mPos f_d_law_holds (mCons (mV 3) (mCons (mV 6) (mCons (mC (D.int 0)) mNil)))))) (mT (mOp (inOwnD 0 f_m_Network_ddcontains false) (mC (D.str "")) (mV 3))))
    (sRet (mC (D.bl false)))
    sNx)
    (sSeq (sFrz 5 (sKill [2, 6, 3, 5] (sFor (mRng1 (mCons (mV 2) mNil)) (tgN 7) l3_d_law)))
    (sRet (mAndV (mOp eqD (mCall (lenF 0 "names") (mCons (mV 4) mNil)) (mC (D.int 0))) (mOp eqD (mCall (lstF 0 "names") (mCons (mV 4) mNil)) (mLst mNil)))))))))))))
def f_d_law : List D → Option (D × Ev) := runF 1 8 b_d_law
/-! the walks -/
section
variable {P : Program} {w : World} {K : PySem.W.Frag} {mg : Str → Option Value} {base h : Heap}
theorem sc_d_law_row : FnScope N_d_law_row P_d_law_row (defScope s_d_law_row) := ⟨rfl, rfl, rfl, by decide +kernel, rfl, by decide +kernel, by decide +kernel⟩
theorem ok_d_law_row (KX : K.In h) (G : h.Ns mainGlobals mg) (c : VI.SaysU fa fn us K) : ∃ fd, FunD K x_d_law_row.name x_d_law_row.qual x_d_law_row.params x_d_law_row.body x_d_law_row.scope (x_d_law_row.dvs K) (x_d_law_row.kws K) (He.fAd K x_d_law_row.at_) fd ∧
    FnOk P w K mg base CX0 1 (He.fAd K x_d_law_row.at_) fd P_d_law_row (SpF K (cl K) [] 2 f_d_law_row) := by
  obtain ⟨fd, F⟩ := c.def_ 0 (d := x_d_law_row) rfl
  refine ⟨fd, F, fn_ok F sc_d_law_row fun cdv A outer s H E hr => ?_⟩
  have hu : (cxOf CX0 P w K mg base N_d_law_row x_d_law_row.qual x_d_law_row.scope (He.fAd K x_d_law_row.at_) cdv A outer s H E).nox.A.units + 64 < cLine := by have := hr.un; show (A.deeper _).units + 64 < cLine; omega
  have hu5 : (cxOf CX0 P w K mg base N_d_law_row x_d_law_row.qual x_d_law_row.scope (He.fAd K x_d_law_row.at_) cdv A outer s H E).nox.A.units + 65 < cLine := by have := hr.un; show (A.deeper _).units + 65 < cLine; omega
  exact (vss_cons (vs_asg sc_d_law_row.nd rfl (by first | exact .inl rfl | exact .inr rfl) (by decide) (ev_lst ed_nil))
    (vss_cons (vs_asg sc_d_law_row.nd rfl (by first | exact .inl rfl | exact .inr rfl) (by decide) (ev_callB call_abs absD_ok (by rfl) (He.free_ok KX G (c.fact 0 (f := .free "abs") rfl)) (by decide +kernel) (ea_cons (ev_var (pv 0)) ea_nil)))
    (vss_cons (vs_asg sc_d_law_row.nd rfl (by first | exact .inl rfl | exact .inr rfl) (by decide) (ev_op op_mod modD_ok (EvD.v (ev_callT call_int1 intD_ok (by rfl) (He.free_ok KX G (c.fact 1 (f := .free "int") rfl)) (by decide +kernel) (ea_cons (EvD.v (ev_op op_addA addD_ok (EvD.v (ev_op op_mulA mulD_ok (ev_var (pv 0)) (EvD.v ev_int))) (EvD.v ev_int))) ea_nil))) (EvD.v ev_int)))
    (vss_cons (vs_kill [0, 1, 4, 3] (vs_for PassesOwn.never rfl (vi_range1 (by rfl) (He.free_ok KX G (c.fact 2 (f := .free "range") rfl)) (ea_cons (ev_var (pv 1)) ea_nil)) (vg_name sc_d_law_row.nd rfl (by first | exact .inl rfl | exact .inr rfl) (by decide))
    (vss_kill [5] (vss_one (vs_if (ev_test op_lt ltD_ok (EvD.v (ev_callB call_abs absD_ok (by rfl) (He.free_ok KX G (c.fact 0 (f := .free "abs") rfl)) (by decide +kernel) (ea_cons (ev_var (pv 0)) ea_nil))) (EvD.v (ev_op op_pow powD_ok (EvD.v ev_int) (EvD.v ev_int))) (nomark _))
    (vss_cons (vs_asg sc_d_law_row.nd rfl (by first | exact .inl rfl | exact .inr rfl) (by decide) (ev_op op_mod modD_ok (EvD.v (ev_callT call_int1 intD_ok (by rfl) (He.free_ok KX G (c.fact 1 (f := .free "int") rfl)) (by decide +kernel) (ea_cons (EvD.v (ev_op op_addA addD_ok (EvD.v (ev_op op_mulA mulD_ok (ev_var (pv 4)) (EvD.v ev_int))) (EvD.v ev_int))) ea_nil))) (EvD.v ev_int)))
    (vss_one (vs_eff (ve_append (ep_name (pv 2)) (ev_op op_mod modD_ok (EvD.v (ev_op op_fdiv fdivD_ok (ev_var (pv 4)) (EvD.v ev_int))) (EvD.v ev_int))))))
    (vss_cons (vs_eff (ve_append (ep_name (pv 2)) (ev_op op_mod modD_ok (EvD.v (ev_callT call_int1 intD_ok (by rfl) (He.free_ok KX G (c.fact 1 (f := .free "int") rfl)) (by decide +kernel) (ea_cons (ev_var (pv 3)) ea_nil))) (EvD.v ev_int))))
    (vss_one (vs_asg sc_d_law_row.nd rfl (by first | exact .inl rfl | exact .inr rfl) (by decide) (ev_op op_fdiv fdivD_ok (ev_var (pv 3)) (EvD.v ev_int))))))))))
    (vss_one (vs_retV (pv 2) (by decide)))))))
theorem sc_d_law_cell : FnScope N_d_law_cell P_d_law_cell (defScope s_d_law_cell) := ⟨rfl, rfl, rfl, by decide +kernel, rfl, by decide +kernel, by decide +kernel⟩
theorem ok_d_law_cell (KX : K.In h) (G : h.Ns mainGlobals mg) (c : VI.SaysU fa fn us K) : ∃ fd, FunD K x_d_law_cell.name x_d_law_cell.qual x_d_law_cell.params x_d_law_cell.body x_d_law_cell.scope (x_d_law_cell.dvs K) (x_d_law_cell.kws K) (He.fAd K x_d_law_cell.at_) fd ∧
    FnOk P w K mg base CX0 1 (He.fAd K x_d_law_cell.at_) fd P_d_law_cell (SpF K (cl K) [] 2 f_d_law_cell) := by
  obtain ⟨fd, F⟩ := c.def_ 1 (d := x_d_law_cell) rfl
  refine ⟨fd, F, fn_ok F sc_d_law_cell fun cdv A outer s H E hr => ?_⟩
  have hu : (cxOf CX0 P w K mg base N_d_law_cell x_d_law_cell.qual x_d_law_cell.scope (He.fAd K x_d_law_cell.at_) cdv A outer s H E).nox.A.units + 64 < cLine := by have := hr.un; show (A.deeper _).units + 64 < cLine; omega
  have hu5 : (cxOf CX0 P w K mg base N_d_law_cell x_d_law_cell.qual x_d_law_cell.scope (He.fAd K x_d_law_cell.at_) cdv A outer s H E).nox.A.units + 65 < cLine := by have := hr.un; show (A.deeper _).units + 65 < cLine; omega
  exact (vss_cons (vs_kill [1, 0] (vs_if (ev_test op_lt ltD_ok (ev_var (pv 1)) (EvD.v (ev_callB call_lenA lenD_ok (by rfl) (He.free_ok KX G (c.fact 3 (f := .free "len") rfl)) (by decide +kernel) (ea_cons (ev_var (pv 0)) ea_nil))) (nomark _))
    (vss_one (vs_ret (EvV.d (ev_sub hu (ev_var (pv 0)) (ev_var (pv 1))))))
    vss_nil))
    (vss_one (vs_ret ev_int)))
theorem sc_m_Network_ddinit : FnScope N_m_Network_ddinit P_m_Network_ddinit (defScope s_m_Network_ddinit) := ⟨rfl, rfl, rfl, by decide +kernel, rfl, by decide +kernel, by decide +kernel⟩
theorem ok_m_Network_ddinit (KX : K.In h) (G : h.Ns mainGlobals mg) (c : VI.SaysU fa fn us K) : ∃ fd, FunD K x_m_Network_ddinit.name x_m_Network_ddinit.qual x_m_Network_ddinit.params x_m_Network_ddinit.body x_m_Network_ddinit.scope (x_m_Network_ddinit.dvs K) (x_m_Network_ddinit.kws K) (He.fAd K x_m_Network_ddinit.at_) fd ∧
    FnOk P w K mg base CX0 2 (He.fAd K x_m_Network_ddinit.at_) fd P_m_Network_ddinit (SpF K (cl K) [0] 2 f_m_Network_ddinit) := by
  obtain ⟨fd, F⟩ := c.def_ 2 (d := x_m_Network_ddinit) rfl
  refine ⟨fd, F, fn_ok F sc_m_Network_ddinit fun cdv A outer s H E hr => ?_⟩
  have hu : (cxOf CX0 P w K mg base N_m_Network_ddinit x_m_Network_ddinit.qual x_m_Network_ddinit.scope (He.fAd K x_m_Network_ddinit.at_) cdv A outer s H E).nox.A.units + 64 < cLine := by have := hr.un; show (A.deeper _).units + 64 < cLine; omega
  have hu5 : (cxOf CX0 P w K mg base N_m_Network_ddinit x_m_Network_ddinit.qual x_m_Network_ddinit.scope (He.fAd K x_m_Network_ddinit.at_) cdv A outer s H E).nox.A.units + 65 < cLine := by have := hr.un; show (A.deeper _).units + 65 < cLine; omega
  exact (vss_cons (vs_if (et_not (et_chain op_le leD_ok op_le leD_ok (EvD.v ev_int) (ev_var (pv 1)) (EvD.v (ev_gint (by rfl) (He.int_ok KX G (c.fact 6 (f := .int "MOST_DAWN" 100) rfl))))))
    (vss_one vs_never)
    vss_nil)
    (vss_cons (vs_kill [1] (vs_fld (cl := cl K) (c := 0) (He.cls_ok (c.fact 7 (f := .cls "Network") rfl)) (He.noat_ok (c.fact 8 (f := .noat "Network" "dawn") rfl)) (ep_name (pv 0)) (EvV.d (ev_var (pv 1)))))
    (vss_cons (vs_fld (cl := cl K) (c := 0) (He.cls_ok (c.fact 7 (f := .cls "Network") rfl)) (He.noat_ok (c.fact 9 (f := .noat "Network" "names") rfl)) (ep_name (pv 0)) (ev_lst ed_nil))
    (vss_cons (vs_fld (cl := cl K) (c := 0) (He.cls_ok (c.fact 7 (f := .cls "Network") rfl)) (He.noat_ok (c.fact 10 (f := .noat "Network" "watches") rfl)) (ep_name (pv 0)) ev_dnewK)
    (vss_cons (vs_fld (cl := cl K) (c := 0) (He.cls_ok (c.fact 7 (f := .cls "Network") rfl)) (He.noat_ok (c.fact 11 (f := .noat "Network" "needs") rfl)) (ep_name (pv 0)) ev_dnewK)
    (vss_cons (vs_fld (cl := cl K) (c := 0) (He.cls_ok (c.fact 7 (f := .cls "Network") rfl)) (He.noat_ok (c.fact 12 (f := .noat "Network" "spans") rfl)) (ep_name (pv 0)) ev_dnewT)
    (vss_one (vs_fld (cl := cl K) (c := 0) (He.cls_ok (c.fact 7 (f := .cls "Network") rfl)) (He.noat_ok (c.fact 13 (f := .noat "Network" "into") rfl)) (ep_name (pv 0)) ev_dnewK))))))))
theorem sc_d_law_near : FnScope N_d_law_near P_d_law_near (defScope s_d_law_near) := ⟨rfl, rfl, rfl, by decide +kernel, rfl, by decide +kernel, by decide +kernel⟩
theorem ok_d_law_near (KX : K.In h) (G : h.Ns mainGlobals mg) (c : VI.SaysU fa fn us K) : ∃ fd, FunD K x_d_law_near.name x_d_law_near.qual x_d_law_near.params x_d_law_near.body x_d_law_near.scope (x_d_law_near.dvs K) (x_d_law_near.kws K) (He.fAd K x_d_law_near.at_) fd ∧
    FnOk P w K mg base CX0 1 (He.fAd K x_d_law_near.at_) fd P_d_law_near (SpF K (cl K) [] 4 f_d_law_near) := by
  obtain ⟨fd, F⟩ := c.def_ 3 (d := x_d_law_near) rfl
  refine ⟨fd, F, fn_ok F sc_d_law_near fun cdv A outer s H E hr => ?_⟩
  have hu : (cxOf CX0 P w K mg base N_d_law_near x_d_law_near.qual x_d_law_near.scope (He.fAd K x_d_law_near.at_) cdv A outer s H E).nox.A.units + 64 < cLine := by have := hr.un; show (A.deeper _).units + 64 < cLine; omega
  have hu5 : (cxOf CX0 P w K mg base N_d_law_near x_d_law_near.qual x_d_law_near.scope (He.fAd K x_d_law_near.at_) cdv A outer s H E).nox.A.units + 65 < cLine := by have := hr.un; show (A.deeper _).units + 65 < cLine; omega
  exact (vss_cons (vs_kill [2] (vs_asg sc_d_law_near.nd rfl (by first | exact .inl rfl | exact .inr rfl) (by decide) (ev_op op_mod modD_ok (EvD.v (ev_callT call_int1 intD_ok (by rfl) (He.free_ok KX G (c.fact 1 (f := .free "int") rfl)) (by decide +kernel) (ea_cons (ev_var (pv 2)) ea_nil))) (EvD.v (ev_callB call_lenA lenD_ok (by rfl) (He.free_ok KX G (c.fact 3 (f := .free "len") rfl)) (by decide +kernel) (ea_cons (ev_var (pv 0)) ea_nil))))))
    (vss_cons (vs_if (ev_test (op_eqA hu) eqD_ok (ev_var (pv 1)) (EvD.v ev_int) (nomark _))
    (vss_one (vs_ret (ev_op op_addA addD_ok (EvD.v (ev_op op_addA addD_ok (EvD.v (ev_slice (ev_var (pv 0)) eo_none (eo_some (ev_var (pv 4))))) (ev_var (pv 3)))) (EvD.v (ev_slice (ev_var (pv 0)) (eo_some (EvD.v (ev_op op_addA addD_ok (ev_var (pv 4)) (EvD.v ev_int)))) eo_none)))))
    vss_nil)
    (vss_cons (vs_if (ev_test (op_eqA hu) eqD_ok (ev_var (pv 1)) (EvD.v ev_int) (nomark _))
    (vss_one (vs_ret (ev_op op_addA addD_ok (ev_var (pv 3)) (ev_var (pv 0)))))
    vss_nil)
    (vss_cons (vs_kill [3, 1] (vs_if (ev_test (op_eqA hu) eqD_ok (ev_var (pv 1)) (EvD.v ev_int) (nomark _))
    (vss_one (vs_ret (ev_op op_addA addD_ok (ev_var (pv 0)) (ev_var (pv 3)))))
    vss_nil))
    (vss_one (vs_ret (ev_op op_addA addD_ok (EvD.v (ev_slice (ev_var (pv 0)) eo_none (eo_some (ev_var (pv 4))))) (EvD.v (ev_slice (ev_var (pv 0)) (eo_some (EvD.v (ev_op op_addA addD_ok (ev_var (pv 4)) (EvD.v ev_int)))) eo_none)))))))))
theorem sc_d_law_name : FnScope N_d_law_name P_d_law_name (defScope s_d_law_name) := ⟨rfl, rfl, rfl, by decide +kernel, rfl, by decide +kernel, by decide +kernel⟩
theorem ok_d_law_name (KX : K.In h) (G : h.Ns mainGlobals mg) (c : VI.SaysU fa fn us K) : ∃ fd, FunD K x_d_law_name.name x_d_law_name.qual x_d_law_name.params x_d_law_name.body x_d_law_name.scope (x_d_law_name.dvs K) (x_d_law_name.kws K) (He.fAd K x_d_law_name.at_) fd ∧
    FnOk P w K mg base CX0 2 (He.fAd K x_d_law_name.at_) fd P_d_law_name (SpF K (cl K) [] 2 f_d_law_name) := by
  obtain ⟨fd, F⟩ := c.def_ 4 (d := x_d_law_name) rfl
  obtain ⟨fd_d_law_near, F_d_law_near, G_d_law_near⟩ := ok_d_law_near (P := P) (w := w) (base := base) KX G c
  have B_d_law_near : Binds K fd_d_law_near P_d_law_near [] := F_d_law_near.bindsN fun _ _ _ _ _ _ us hl => match us, hl with | [_, _, _, _], _ => rfl
  refine ⟨fd, F, fn_ok F sc_d_law_name fun cdv A outer s H E hr => ?_⟩
  have hu : (cxOf CX0 P w K mg base N_d_law_name x_d_law_name.qual x_d_law_name.scope (He.fAd K x_d_law_name.at_) cdv A outer s H E).nox.A.units + 64 < cLine := by have := hr.un; show (A.deeper _).units + 64 < cLine; omega
  have hu5 : (cxOf CX0 P w K mg base N_d_law_name x_d_law_name.qual x_d_law_name.scope (He.fAd K x_d_law_name.at_) cdv A outer s H E).nox.A.units + 65 < cLine := by have := hr.un; show (A.deeper _).units + 65 < cLine; omega
  exact (vss_cons (vs_asg sc_d_law_name.nd rfl (by first | exact .inl rfl | exact .inr rfl) (by decide) ev_str)
    (vss_cons (vs_asg sc_d_law_name.nd rfl (by first | exact .inl rfl | exact .inr rfl) (by decide) ev_str)
    (vss_cons (vs_for PassesOwn.never rfl (vi_range1 (by rfl) (He.free_ok KX G (c.fact 2 (f := .free "range") rfl)) (ea_cons (EvD.v (ev_op op_addA addD_ok (EvD.v ev_int) (EvD.v (ev_op op_mod modD_ok (EvD.v (ev_callT call_int1 intD_ok (by rfl) (He.free_ok KX G (c.fact 1 (f := .free "int") rfl)) (by decide +kernel) (ea_cons (ev_sub hu (ev_var (pv 0)) (EvD.v ev_int)) ea_nil))) (EvD.v ev_int))))) ea_nil)) (vg_name sc_d_law_name.nd rfl (by first | exact .inl rfl | exact .inr rfl) (by decide))
    (vss_one (vs_kill [4] (vs_asg sc_d_law_name.nd rfl (by first | exact .inl rfl | exact .inr rfl) (by decide) (ev_op op_addA addD_ok (ev_var (pv 3)) (ev_sub hu (ev_var (pv 2)) (EvD.v (ev_op op_mod modD_ok (EvD.v (ev_callT call_int1 intD_ok (by rfl) (He.free_ok KX G (c.fact 1 (f := .free "int") rfl)) (by decide +kernel) (ea_cons (ev_sub hu (ev_var (pv 0)) (EvD.v (ev_op op_addA addD_ok (EvD.v ev_int) (ev_var (pv 4))))) ea_nil))) (EvD.v ev_int)))))))))
    (vss_cons (vs_kill [2, 6, 0] (vs_if (EvW.t (ew_and (ev_test op_gt gtD_ok (EvD.v (ev_callB call_lenA lenD_ok (by rfl) (He.free_ok KX G (c.fact 3 (f := .free "len") rfl)) (by decide +kernel) (ea_cons (ev_var (pv 1)) ea_nil))) (EvD.v ev_int) (nomark _)) (ew_and1 (ev_test (op_eqA hu) eqD_ok (EvD.v (ev_op op_mod modD_ok (EvD.v (ev_callT call_int1 intD_ok (by rfl) (He.free_ok KX G (c.fact 1 (f := .free "int") rfl)) (by decide +kernel) (ea_cons (ev_sub hu (ev_var (pv 0)) (EvD.v ev_int)) ea_nil))) (EvD.v ev_int))) (EvD.v ev_int) (nomark _)))))
    (vss_cons (vs_asg sc_d_law_name.nd rfl (by first | exact .inl rfl | exact .inr rfl) (by decide) (ev_callP G_d_law_near (hr.mono (by decide)) (by rfl) (He.glo_ok KX G (c.fact 16 (f := .glo "_law_near") rfl)) F_d_law_near.kp B_d_law_near ar_runF (ea_cons (ev_sub hu (ev_var (pv 1)) (EvD.v (ev_op op_sub subD_ok (EvD.v (ev_callB call_lenA lenD_ok (by rfl) (He.free_ok KX G (c.fact 3 (f := .free "len") rfl)) (by decide +kernel) (ea_cons (ev_var (pv 1)) ea_nil))) (EvD.v ev_int)))) (ea_cons (EvD.v (ev_op op_mod modD_ok (EvD.v (ev_callT call_int1 intD_ok (by rfl) (He.free_ok KX G (c.fact 1 (f := .free "int") rfl)) (by decide +kernel) (ea_cons (ev_sub hu (ev_var (pv 0)) (EvD.v ev_int)) ea_nil))) (EvD.v ev_int))) (ea_cons (ev_sub hu (ev_var (pv 0)) (EvD.v ev_int)) (ea_cons (ev_sub hu (ev_var (pv 2)) (EvD.v (ev_op op_mod modD_ok (EvD.v (ev_callT call_int1 intD_ok (by rfl) (He.free_ok KX G (c.fact 1 (f := .free "int") rfl)) (by decide +kernel) (ea_cons (ev_sub hu (ev_var (pv 0)) (EvD.v ev_int)) ea_nil))) (EvD.v ev_int)))) ea_nil))))))
    (vss_one (vs_if (et_chain op_le leD_ok op_le leD_ok (EvD.v ev_int) (EvD.v (ev_callB call_lenA lenD_ok (by rfl) (He.free_ok KX G (c.fact 3 (f := .free "len") rfl)) (by decide +kernel) (ea_cons (ev_var (pv 6)) ea_nil))) (EvD.v ev_int))
    (vss_one (vs_frz 6 (vs_asg sc_d_law_name.nd rfl (by first | exact .inl rfl | exact .inr rfl) (by decide) (EvV.d (ev_var (pv 6))))))
    vss_nil)))
    vss_nil))
    (vss_cons (vs_kill [1] (vs_for PassesOwn.never rfl (vi_any ev_str) (vg_name sc_d_law_name.nd rfl (by first | exact .inl rfl | exact .inr rfl) (by decide))
    (vss_one (vs_kill [5] (vs_if (et_in hu5 (ev_var (pv 3)) (ev_var (pv 1)))
    (vss_one (vs_asg sc_d_law_name.nd rfl (by first | exact .inl rfl | exact .inr rfl) (by decide) (ev_op op_mulA mulD_ok (ev_var (pv 5)) (EvD.v (ev_op op_addA addD_ok (EvD.v ev_int) (EvD.v (ev_callB call_lenA lenD_ok (by rfl) (He.free_ok KX G (c.fact 3 (f := .free "len") rfl)) (by decide +kernel) (ea_cons (ev_var (pv 1)) ea_nil))))))))
    vss_nil)))))
    (vss_one (vs_retV (pv 3) (by decide))))))))
theorem sc_m_Network_ddcontains : FnScope N_m_Network_ddcontains P_m_Network_ddcontains (defScope s_m_Network_ddcontains) := ⟨rfl, rfl, rfl, by decide +kernel, rfl, by decide +kernel, by decide +kernel⟩
theorem ok_m_Network_ddcontains (KX : K.In h) (G : h.Ns mainGlobals mg) (c : VI.SaysU fa fn us K) : ∃ fd, FunD K x_m_Network_ddcontains.name x_m_Network_ddcontains.qual x_m_Network_ddcontains.params x_m_Network_ddcontains.body x_m_Network_ddcontains.scope (x_m_Network_ddcontains.dvs K) (x_m_Network_ddcontains.kws K) (He.fAd K x_m_Network_ddcontains.at_) fd ∧
    FnOk P w K mg base CX0 1 (He.fAd K x_m_Network_ddcontains.at_) fd P_m_Network_ddcontains (SpF K (cl K) [] 2 f_m_Network_ddcontains) := by
  obtain ⟨fd, F⟩ := c.def_ 5 (d := x_m_Network_ddcontains) rfl
  refine ⟨fd, F, fn_ok F sc_m_Network_ddcontains fun cdv A outer s H E hr => ?_⟩
  have hu : (cxOf CX0 P w K mg base N_m_Network_ddcontains x_m_Network_ddcontains.qual x_m_Network_ddcontains.scope (He.fAd K x_m_Network_ddcontains.at_) cdv A outer s H E).nox.A.units + 64 < cLine := by have := hr.un; show (A.deeper _).units + 64 < cLine; omega
  have hu5 : (cxOf CX0 P w K mg base N_m_Network_ddcontains x_m_Network_ddcontains.qual x_m_Network_ddcontains.scope (He.fAd K x_m_Network_ddcontains.at_) cdv A outer s H E).nox.A.units + 65 < cLine := by have := hr.un; show (A.deeper _).units + 65 < cLine; omega
  exact (vss_one (vs_ret (ev_in hu5 (ev_var (pv 1)) (ev_fld (cl := cl K) (c := 0) (He.cls_ok (c.fact 7 (f := .cls "Network") rfl)) (He.noat_ok (c.fact 11 (f := .noat "Network" "needs") rfl)) (ev_var (pv 0))))))
theorem sc_m_Network_ddlen : FnScope N_m_Network_ddlen P_m_Network_ddlen (defScope s_m_Network_ddlen) := ⟨rfl, rfl, rfl, by decide +kernel, rfl, by decide +kernel, by decide +kernel⟩
theorem ok_m_Network_ddlen (KX : K.In h) (G : h.Ns mainGlobals mg) (c : VI.SaysU fa fn us K) : ∃ fd, FunD K x_m_Network_ddlen.name x_m_Network_ddlen.qual x_m_Network_ddlen.params x_m_Network_ddlen.body x_m_Network_ddlen.scope (x_m_Network_ddlen.dvs K) (x_m_Network_ddlen.kws K) (He.fAd K x_m_Network_ddlen.at_) fd ∧
    FnOk P w K mg base CX0 1 (He.fAd K x_m_Network_ddlen.at_) fd P_m_Network_ddlen (spLn K (cl K 0) "names") := by
  obtain ⟨fd, F⟩ := c.def_ 6 (d := x_m_Network_ddlen) rfl
  exact ⟨fd, F, F.ok sc_m_Network_ddlen (fun vs H Q E h => by obtain ⟨_, _, _, _, _, rfl, _⟩ := h; rfl) fun cdv A outer s H vs Q E hr h => len_pss (He.cls_ok (c.fact 7 (f := .cls "Network") rfl)) (He.noat_ok (c.fact 9 (f := .noat "Network" "names") rfl)) (by rfl) (He.free_ok KX G (c.fact 3 (f := .free "len") rfl)) (by decide +kernel) (pv 0) (h := h)⟩
theorem sc_m_Network_dditer : FnScope N_m_Network_dditer P_m_Network_dditer (defScope s_m_Network_dditer) := ⟨rfl, rfl, rfl, by decide +kernel, rfl, by decide +kernel, by decide +kernel⟩
theorem ok_m_Network_dditer (KX : K.In h) (G : h.Ns mainGlobals mg) (c : VI.SaysU fa fn us K) : ∃ fd, FunD K x_m_Network_dditer.name x_m_Network_dditer.qual x_m_Network_dditer.params x_m_Network_dditer.body x_m_Network_dditer.scope (x_m_Network_dditer.dvs K) (x_m_Network_dditer.kws K) (He.fAd K x_m_Network_dditer.at_) fd ∧
    ∀ base : Heap, FnOk P w K mg base CX0 1 (He.fAd K x_m_Network_dditer.at_) fd P_m_Network_dditer (spIt K (cl K 0) "names" base.objs.size) := by
  obtain ⟨fd, F⟩ := c.def_ 7 (d := x_m_Network_dditer) rfl
  exact ⟨fd, F, fun base => F.ok sc_m_Network_dditer (fun vs H Q E h => by obtain ⟨_, _, _, _, _, rfl, _⟩ := h; rfl) fun cdv A outer s H vs Q E hr h => iter_pss (He.cls_ok (c.fact 7 (f := .cls "Network") rfl)) (He.noat_ok (c.fact 9 (f := .noat "Network" "names") rfl)) (by rfl) (He.free_ok KX G (c.fact 19 (f := .free "iter") rfl)) (pv 0) (h := h)⟩
theorem sc_d_law_holds : FnScope N_d_law_holds P_d_law_holds (defScope s_d_law_holds) := ⟨rfl, rfl, rfl, by decide +kernel, rfl, by decide +kernel, by decide +kernel⟩
theorem ok_d_law_holds (KX : K.In h) (G : h.Ns mainGlobals mg) (c : VI.SaysU fa fn us K) : ∃ fd, FunD K x_d_law_holds.name x_d_law_holds.qual x_d_law_holds.params x_d_law_holds.body x_d_law_holds.scope (x_d_law_holds.dvs K) (x_d_law_holds.kws K) (He.fAd K x_d_law_holds.at_) fd ∧
    FnOk P w K mg base CX0 5 (He.fAd K x_d_law_holds.at_) fd P_d_law_holds (SpF K (cl K) [] 3 f_d_law_holds) := by
  obtain ⟨fd, F⟩ := c.def_ 8 (d := x_d_law_holds) rfl
  obtain ⟨fd_m_Network_ddlen, F_m_Network_ddlen, G_m_Network_ddlen⟩ := ok_m_Network_ddlen (P := P) (w := w) (base := base) KX G c
  have B_m_Network_ddlen : Binds K fd_m_Network_ddlen P_m_Network_ddlen [] := F_m_Network_ddlen.bindsN fun _ _ _ _ _ _ us hl => match us, hl with | [_], _ => rfl
  obtain ⟨fd_m_Network_dditer, F_m_Network_dditer, G_m_Network_dditer⟩ := ok_m_Network_dditer (P := P) (w := w) KX G c
  have B_m_Network_dditer : Binds K fd_m_Network_dditer P_m_Network_dditer [] := F_m_Network_dditer.bindsN fun _ _ _ _ _ _ us hl => match us, hl with | [_], _ => rfl
  obtain ⟨fd_m_Network_ddcontains, F_m_Network_ddcontains, G_m_Network_ddcontains⟩ := ok_m_Network_ddcontains (P := P) (w := w) (base := base) KX G c
  have B_m_Network_ddcontains : Binds K fd_m_Network_ddcontains P_m_Network_ddcontains [] := F_m_Network_ddcontains.bindsN fun _ _ _ _ _ _ us hl => match us, hl with | [_, _], _ => rfl
  refine ⟨fd, F, fn_ok F sc_d_law_holds fun cdv A outer s H E hr => ?_⟩
  have hu : (cxOf CX0 P w K mg base N_d_law_holds x_d_law_holds.qual x_d_law_holds.scope (He.fAd K x_d_law_holds.at_) cdv A outer s H E).nox.A.units + 64 < cLine := by have := hr.un; show (A.deeper _).units + 64 < cLine; omega
  have hu5 : (cxOf CX0 P w K mg base N_d_law_holds x_d_law_holds.qual x_d_law_holds.scope (He.fAd K x_d_law_holds.at_) cdv A outer s H E).nox.A.units + 65 < cLine := by have := hr.un; show (A.deeper _).units + 65 < cLine; omega
  exact (vss_cons (vs_if (EvW.t (ew_or (ev_test (op_neA hu) neD_ok (EvD.v (ev_callB (call_lenF (C := cl K 0) (He.meth_ok (c.fact 20 (f := .meth "Network" "__len__") rfl)) G_m_Network_ddlen (hr.mono (by decide)) B_m_Network_ddlen) lenF_ok (by rfl) (He.free_ok KX G (c.fact 3 (f := .free "len") rfl)) (by decide +kernel) (ea_cons (ev_var (pv 0)) ea_nil))) (ev_var (pv 2)) (nomark _)) (ew_or (ev_test (op_neA hu) neD_ok (EvD.v (ev_callT (call_lstOwn (C := cl K 0) rfl (He.meth_ok (c.fact 20 (f := .meth "Network" "__len__") rfl)) G_m_Network_ddlen (hr.mono (by decide)) B_m_Network_ddlen (He.meth_ok (c.fact 21 (f := .meth "Network" "__iter__") rfl)) G_m_Network_dditer (hr.mono (by decide)) B_m_Network_dditer) lstF_ok (by rfl) (He.free_ok KX G (c.fact 22 (f := .free "list") rfl)) (by decide +kernel) (ea_cons (ev_var (pv 0)) ea_nil))) (EvD.v (ev_slice (ev_var (pv 1)) eo_none (eo_some (ev_var (pv 2))))) (nomark _)) (ew_or1 (ev_test (op_neA hu) neD_ok (EvD.v (ev_callT (call_lstOwn (C := cl K 0) rfl (He.meth_ok (c.fact 20 (f := .meth "Network" "__len__") rfl)) G_m_Network_ddlen (hr.mono (by decide)) B_m_Network_ddlen (He.meth_ok (c.fact 21 (f := .meth "Network" "__iter__") rfl)) G_m_Network_dditer (hr.mono (by decide)) B_m_Network_dditer) lstF_ok (by rfl) (He.free_ok KX G (c.fact 22 (f := .free "list") rfl)) (by decide +kernel) (ea_cons (ev_var (pv 0)) ea_nil))) (EvD.v (ev_slice (ev_var (pv 1)) eo_none (eo_some (ev_var (pv 2))))) (nomark _))))))
    (vss_one (vs_ret ev_bl))
    vss_nil)
    (vss_cons (vs_kill [2, 1, 0] (vs_for PassesOwn.never rfl (vi_range1 (by rfl) (He.free_ok KX G (c.fact 2 (f := .free "range") rfl)) (ea_cons (EvD.v (ev_callB call_lenA lenD_ok (by rfl) (He.free_ok KX G (c.fact 3 (f := .free "len") rfl)) (by decide +kernel) (ea_cons (ev_var (pv 1)) ea_nil))) ea_nil)) (vg_name sc_d_law_holds.nd rfl (by first | exact .inl rfl | exact .inr rfl) (by decide))
    (vss_one (vs_kill [3] (vs_if (ev_test (op_neA hu) neD_ok (EvD.v (ev_cmp (op_inOwn (C := cl K 0) (He.meth_ok (c.fact 18 (f := .meth "Network" "__contains__") rfl)) G_m_Network_ddcontains (hr.mono (by decide)) B_m_Network_ddcontains) inOwn_ok (ev_sub hu (ev_var (pv 1)) (ev_var (pv 3))) (ev_var (pv 0)) (by rfl))) (EvD.v (ev_cmp op_lt ltD_ok (ev_var (pv 3)) (ev_var (pv 2)) (nomark _))) (nomark _))
    (vss_one (vs_ret ev_bl))
    vss_nil)))))
    (vss_one (vs_ret ev_bl))))
theorem sc_d_is_name : FnScope N_d_is_name P_d_is_name (defScope s_d_is_name) := ⟨rfl, rfl, rfl, by decide +kernel, rfl, by decide +kernel, by decide +kernel⟩
theorem ok_d_is_name (KX : K.In h) (G : h.Ns mainGlobals mg) (c : VI.SaysU fa fn us K) : ∃ fd, FunD K x_d_is_name.name x_d_is_name.qual x_d_is_name.params x_d_is_name.body x_d_is_name.scope (x_d_is_name.dvs K) (x_d_is_name.kws K) (He.fAd K x_d_is_name.at_) fd ∧
    FnOk P w K mg base CX0 1 (He.fAd K x_d_is_name.at_) fd P_d_is_name (SpF K (cl K) [] 1 f_d_is_name) := by
  obtain ⟨fd, F⟩ := c.def_ 9 (d := x_d_is_name) rfl
  refine ⟨fd, F, fn_ok F sc_d_is_name fun cdv A outer s H E hr => ?_⟩
  have hu : (cxOf CX0 P w K mg base N_d_is_name x_d_is_name.qual x_d_is_name.scope (He.fAd K x_d_is_name.at_) cdv A outer s H E).nox.A.units + 64 < cLine := by have := hr.un; show (A.deeper _).units + 64 < cLine; omega
  have hu5 : (cxOf CX0 P w K mg base N_d_is_name x_d_is_name.qual x_d_is_name.scope (He.fAd K x_d_is_name.at_) cdv A outer s H E).nox.A.units + 65 < cLine := by have := hr.un; show (A.deeper _).units + 65 < cLine; omega
  exact (vss_cons (vs_if (et_not (et_chain op_le leD_ok op_le leD_ok (EvD.v ev_int) (EvD.v (ev_callB call_lenA lenD_ok (by rfl) (He.free_ok KX G (c.fact 3 (f := .free "len") rfl)) (by decide +kernel) (ea_cons (ev_var (pv 0)) ea_nil))) (EvD.v (ev_gint (by rfl) (He.int_ok KX G (c.fact 24 (f := .int "MOST_NAME" 8) rfl))))))
    (vss_one (vs_ret ev_bl))
    vss_nil)
    (vss_cons (vs_kill [0] (vs_for PassesOwn.never rfl (vi_any (EvV.d (ev_var (pv 0)))) (vg_name sc_d_is_name.nd rfl (by first | exact .inl rfl | exact .inr rfl) (by decide))
    (vss_one (vs_kill [1] (vs_if (et_nin hu5 (ev_var (pv 1)) (EvD.v (ev_gstr (by rfl) (He.str_ok KX G (c.fact 25 (f := .str "LETTERS" "abcdefghijklmnopqrstuvwxyz") rfl)))))
    (vss_one (vs_ret ev_bl))
    vss_nil)))))
    (vss_one (vs_ret ev_bl))))
theorem sc_m_Network_add_keeper : FnScope N_m_Network_add_keeper P_m_Network_add_keeper (defScope s_m_Network_add_keeper) := ⟨rfl, rfl, rfl, by decide +kernel, rfl, by decide +kernel, by decide +kernel⟩
theorem ok_m_Network_add_keeper (KX : K.In h) (G : h.Ns mainGlobals mg) (c : VI.SaysU fa fn us K) : ∃ fd, FunD K x_m_Network_add_keeper.name x_m_Network_add_keeper.qual x_m_Network_add_keeper.params x_m_Network_add_keeper.body x_m_Network_add_keeper.scope (x_m_Network_add_keeper.dvs K) (x_m_Network_add_keeper.kws K) (He.fAd K x_m_Network_add_keeper.at_) fd ∧
    FnOk P w K mg base CX0 3 (He.fAd K x_m_Network_add_keeper.at_) fd P_m_Network_add_keeper (SpF K (cl K) [0] 4 f_m_Network_add_keeper) := by
  obtain ⟨fd, F⟩ := c.def_ 10 (d := x_m_Network_add_keeper) rfl
  obtain ⟨fd_d_is_name, F_d_is_name, G_d_is_name⟩ := ok_d_is_name (P := P) (w := w) (base := base) KX G c
  have B_d_is_name : Binds K fd_d_is_name P_d_is_name [] := F_d_is_name.bindsN fun _ _ _ _ _ _ us hl => match us, hl with | [_], _ => rfl
  refine ⟨fd, F, fn_ok F sc_m_Network_add_keeper fun cdv A outer s H E hr => ?_⟩
  have hu : (cxOf CX0 P w K mg base N_m_Network_add_keeper x_m_Network_add_keeper.qual x_m_Network_add_keeper.scope (He.fAd K x_m_Network_add_keeper.at_) cdv A outer s H E).nox.A.units + 64 < cLine := by have := hr.un; show (A.deeper _).units + 64 < cLine; omega
  have hu5 : (cxOf CX0 P w K mg base N_m_Network_add_keeper x_m_Network_add_keeper.qual x_m_Network_add_keeper.scope (He.fAd K x_m_Network_add_keeper.at_) cdv A outer s H E).nox.A.units + 65 < cLine := by have := hr.un; show (A.deeper _).units + 65 < cLine; omega
  exact (vss_cons (vs_if (et_not (ev_truth (EvD.v (ev_callP G_d_is_name (hr.mono (by decide)) (by rfl) (He.glo_ok KX G (c.fact 26 (f := .glo "is_name") rfl)) F_d_is_name.kp B_d_is_name ar_runF (ea_cons (ev_var (pv 1)) ea_nil))) (fun _ => rfl)))
    (vss_one vs_never)
    vss_nil)
    (vss_cons (vs_if (et_in hu5 (ev_var (pv 1)) (ev_fld (cl := cl K) (c := 0) (He.cls_ok (c.fact 7 (f := .cls "Network") rfl)) (He.noat_ok (c.fact 11 (f := .noat "Network" "needs") rfl)) (ev_var (pv 0))))
    (vss_one vs_never)
    vss_nil)
    (vss_cons (vs_if (ev_test op_ge geD_ok (EvD.v (ev_callB call_lenA lenD_ok (by rfl) (He.free_ok KX G (c.fact 3 (f := .free "len") rfl)) (by decide +kernel) (ea_cons (ev_fld (cl := cl K) (c := 0) (He.cls_ok (c.fact 7 (f := .cls "Network") rfl)) (He.noat_ok (c.fact 9 (f := .noat "Network" "names") rfl)) (ev_var (pv 0))) ea_nil))) (EvD.v (ev_gint (by rfl) (He.int_ok KX G (c.fact 27 (f := .int "MOST_KEEPERS" 8) rfl)))) (nomark _))
    (vss_one vs_never)
    vss_nil)
    (vss_cons (vs_if (et_not (et_chain op_le leD_ok op_le leD_ok (EvD.v ev_int) (ev_var (pv 3)) (EvD.v (ev_gint (by rfl) (He.int_ok KX G (c.fact 28 (f := .int "MOST_NEED" 8) rfl))))))
    (vss_one vs_never)
    vss_nil)
    (vss_cons (vs_eff (ve_append (ep_fld (cl := cl K) (c := 0) (He.cls_ok (c.fact 7 (f := .cls "Network") rfl)) (He.noat_ok (c.fact 9 (f := .noat "Network" "names") rfl)) (ep_name (pv 0))) (EvV.d (ev_var (pv 1)))))
    (vss_cons (vs_kill [2] (vs_put hu (ep_fld (cl := cl K) (c := 0) (He.cls_ok (c.fact 7 (f := .cls "Network") rfl)) (He.noat_ok (c.fact 10 (f := .noat "Network" "watches") rfl)) (ep_name (pv 0))) (ev_var (pv 1)) (EvV.d (ev_var (pv 2)))))
    (vss_cons (vs_kill [3] (vs_put hu (ep_fld (cl := cl K) (c := 0) (He.cls_ok (c.fact 7 (f := .cls "Network") rfl)) (He.noat_ok (c.fact 11 (f := .noat "Network" "needs") rfl)) (ep_name (pv 0))) (ev_var (pv 1)) (EvV.d (ev_var (pv 3)))))
    (vss_one (vs_kill [1] (vs_put hu (ep_fld (cl := cl K) (c := 0) (He.cls_ok (c.fact 7 (f := .cls "Network") rfl)) (He.noat_ok (c.fact 13 (f := .noat "Network" "into") rfl)) (ep_name (pv 0))) (ev_var (pv 1)) (ev_lst ed_nil)))))))))))
theorem sc_d_law_add : FnScope N_d_law_add P_d_law_add (defScope s_d_law_add) := ⟨rfl, rfl, rfl, by decide +kernel, rfl, by decide +kernel, by decide +kernel⟩
theorem ok_d_law_add (KX : K.In h) (G : h.Ns mainGlobals mg) (c : VI.SaysU fa fn us K) : ∃ fd, FunD K x_d_law_add.name x_d_law_add.qual x_d_law_add.params x_d_law_add.body x_d_law_add.scope (x_d_law_add.dvs K) (x_d_law_add.kws K) (He.fAd K x_d_law_add.at_) fd ∧
    FnOk P w K mg base CX0 4 (He.fAd K x_d_law_add.at_) fd P_d_law_add (SpF K (cl K) [0] 3 f_d_law_add) := by
  obtain ⟨fd, F⟩ := c.def_ 11 (d := x_d_law_add) rfl
  obtain ⟨fd_m_Network_add_keeper, F_m_Network_add_keeper, G_m_Network_add_keeper⟩ := ok_m_Network_add_keeper (P := P) (w := w) (base := base) KX G c
  refine ⟨fd, F, fn_ok F sc_d_law_add fun cdv A outer s H E hr => ?_⟩
  have hu : (cxOf CX0 P w K mg base N_d_law_add x_d_law_add.qual x_d_law_add.scope (He.fAd K x_d_law_add.at_) cdv A outer s H E).nox.A.units + 64 < cLine := by have := hr.un; show (A.deeper _).units + 64 < cLine; omega
  have hu5 : (cxOf CX0 P w K mg base N_d_law_add x_d_law_add.qual x_d_law_add.scope (He.fAd K x_d_law_add.at_) cdv A outer s H E).nox.A.units + 65 < cLine := by have := hr.un; show (A.deeper _).units + 65 < cLine; omega
  exact (vss_cons (vs_asg sc_d_law_add.nd rfl (by first | exact .inl rfl | exact .inr rfl) (by decide) (ev_op op_mod modD_ok (EvD.v (ev_callT call_int1 intD_ok (by rfl) (He.free_ok KX G (c.fact 1 (f := .free "int") rfl)) (by decide +kernel) (ea_cons (ev_sub hu (ev_var (pv 2)) (EvD.v ev_int)) ea_nil))) (EvD.v ev_int)))
    (vss_cons (vs_asg sc_d_law_add.nd rfl (by first | exact .inl rfl | exact .inr rfl) (by decide) (ev_op op_addA addD_ok (EvD.v ev_int) (EvD.v (ev_op op_mod modD_ok (EvD.v (ev_callT call_int1 intD_ok (by rfl) (He.free_ok KX G (c.fact 1 (f := .free "int") rfl)) (by decide +kernel) (ea_cons (ev_sub hu (ev_var (pv 2)) (EvD.v ev_int)) ea_nil))) (EvD.v ev_int)))))
    (vss_cons (vs_kill [2] (vs_asg sc_d_law_add.nd rfl (by first | exact .inl rfl | exact .inr rfl) (by decide) (ev_cmp (op_eqA hu) eqD_ok (EvD.v (ev_op op_mod modD_ok (EvD.v (ev_op op_fdiv fdivD_ok (EvD.v (ev_callT call_int1 intD_ok (by rfl) (He.free_ok KX G (c.fact 1 (f := .free "int") rfl)) (by decide +kernel) (ea_cons (ev_sub hu (ev_var (pv 2)) (EvD.v ev_int)) ea_nil))) (EvD.v ev_int))) (EvD.v ev_int))) (EvD.v ev_int) (nomark _))))
    (vss_cons (vs_if (ev_test (op_eqA hu) eqD_ok (ev_var (pv 3)) (EvD.v ev_int) (nomark _))
    (vss_one (vs_effR (ve_meth (cl := cl K) (c := 0) (n := 1) (He.cls_ok (c.fact 7 (f := .cls "Network") rfl)) (He.meth_ok (c.fact 29 (f := .meth "Network" "add_keeper") rfl)) G_m_Network_add_keeper (hr.mono (by decide)) (kbs0 (ps := ["self", "name", "lookout", "need"]) F_m_Network_add_keeper 2 [] [("lookout", V.bl false), ("need", V.int 1)] [.p 0, .p 1, .c 0, .c 1] [(D.bl false), (D.int 1)] (by simp [He.DefD.kws, x_m_Network_add_keeper]) (by simp [He.DefD.kws, He.Dv.v, x_m_Network_add_keeper]) (fun _ _ _ => (repL_cons (f := []) (g := []) rep_bl (repL_cons (f := []) (g := []) rep_int repL_nil))) (fun _ _ _ _ _ _ us mv ws h1 h2 h3 => match us, mv, ws, h1, h2, h3 with | [_, _], [_, _], [], _, _, _ => ⟨_, _, _, _, _, _, rfl, rfl, _, _, _, _, _, _, rfl, rfl, rfl⟩)) ar_runF rfl (ep_name (pv 0)) (ea_cons (ev_var (pv 1)) ea_nil) ek_nil (len_cons len_nil) len_nil)))
    vss_nil)
    (vss_cons (vs_if (ev_test (op_eqA hu) eqD_ok (ev_var (pv 3)) (EvD.v ev_int) (nomark _))
    (vss_one (vs_effR (ve_meth (cl := cl K) (c := 0) (n := 1) (He.cls_ok (c.fact 7 (f := .cls "Network") rfl)) (He.meth_ok (c.fact 29 (f := .meth "Network" "add_keeper") rfl)) G_m_Network_add_keeper (hr.mono (by decide)) (kbs0 (ps := ["self", "name", "lookout", "need"]) F_m_Network_add_keeper 2 ["need"] [("lookout", V.bl false)] [.p 0, .p 1, .c 0, .k 0] [(D.bl false)] (by simp [He.DefD.kws, x_m_Network_add_keeper]) (by simp [He.DefD.kws, He.Dv.v, x_m_Network_add_keeper]) (fun _ _ _ => (repL_cons (f := []) (g := []) rep_bl repL_nil)) (fun _ _ _ _ _ _ us mv ws h1 h2 h3 => match us, mv, ws, h1, h2, h3 with | [_, _], [_], [_], _, _, _ => ⟨_, _, _, _, _, _, rfl, rfl, rfl⟩)) ar_runF rfl (ep_name (pv 0)) (ea_cons (ev_var (pv 1)) ea_nil) (ek_cons (ev_var (pv 4)) ek_nil) (len_cons len_nil) (len_cons len_nil))))
    vss_nil)
    (vss_cons (vs_kill [3] (vs_if (ev_test (op_eqA hu) eqD_ok (ev_var (pv 3)) (EvD.v ev_int) (nomark _))
    (vss_one (vs_effR (ve_meth (cl := cl K) (c := 0) (n := 1) (He.cls_ok (c.fact 7 (f := .cls "Network") rfl)) (He.meth_ok (c.fact 29 (f := .meth "Network" "add_keeper") rfl)) G_m_Network_add_keeper (hr.mono (by decide)) (kbs0 (ps := ["self", "name", "lookout", "need"]) F_m_Network_add_keeper 2 ["lookout"] [("need", V.int 1)] [.p 0, .p 1, .k 0, .c 0] [(D.int 1)] (by simp [He.DefD.kws, x_m_Network_add_keeper]) (by simp [He.DefD.kws, He.Dv.v, x_m_Network_add_keeper]) (fun _ _ _ => (repL_cons (f := []) (g := []) rep_int repL_nil)) (fun _ _ _ _ _ _ us mv ws h1 h2 h3 => match us, mv, ws, h1, h2, h3 with | [_, _], [_], [_], _, _, _ => ⟨_, _, _, _, _, _, rfl, rfl, rfl⟩)) ar_runF rfl (ep_name (pv 0)) (ea_cons (ev_var (pv 1)) ea_nil) (ek_cons (ev_var (pv 5)) ek_nil) (len_cons len_nil) (len_cons len_nil))))
    vss_nil))
    (vss_one (vs_effR (ve_meth (cl := cl K) (c := 0) (n := 1) (He.cls_ok (c.fact 7 (f := .cls "Network") rfl)) (He.meth_ok (c.fact 29 (f := .meth "Network" "add_keeper") rfl)) G_m_Network_add_keeper (hr.mono (by decide)) (kbs0 (ps := ["self", "name", "lookout", "need"]) F_m_Network_add_keeper 2 ["lookout", "need"] [] [.p 0, .p 1, .k 0, .k 1] [] (by simp [He.DefD.kws, x_m_Network_add_keeper]) (by simp [He.DefD.kws, He.Dv.v, x_m_Network_add_keeper]) (fun _ _ _ => repL_nil) (fun _ _ _ _ _ _ us mv ws h1 h2 h3 => match us, mv, ws, h1, h2, h3 with | [_, _], [], [_, _], _, _, _ => rfl)) ar_runF rfl (ep_name (pv 0)) (ea_cons (ev_var (pv 1)) ea_nil) (ek_cons (ev_var (pv 5)) (ek_cons (ev_var (pv 4)) ek_nil)) (len_cons len_nil) (len_cons (len_cons len_nil)))))))))))
theorem sc_d_law_strangers : FnScope N_d_law_strangers P_d_law_strangers (defScope s_d_law_strangers) := ⟨rfl, rfl, rfl, by decide +kernel, rfl, by decide +kernel, by decide +kernel⟩
theorem ok_d_law_strangers (KX : K.In h) (G : h.Ns mainGlobals mg) (c : VI.SaysU fa fn us K) : ∃ fd, FunD K x_d_law_strangers.name x_d_law_strangers.qual x_d_law_strangers.params x_d_law_strangers.body x_d_law_strangers.scope (x_d_law_strangers.dvs K) (x_d_law_strangers.kws K) (He.fAd K x_d_law_strangers.at_) fd ∧
    FnOk P w K mg base CX0 2 (He.fAd K x_d_law_strangers.at_) fd P_d_law_strangers (SpF K (cl K) [] 4 f_d_law_strangers) := by
  obtain ⟨fd, F⟩ := c.def_ 12 (d := x_d_law_strangers) rfl
  obtain ⟨fd_d_law_near, F_d_law_near, G_d_law_near⟩ := ok_d_law_near (P := P) (w := w) (base := base) KX G c
  have B_d_law_near : Binds K fd_d_law_near P_d_law_near [] := F_d_law_near.bindsN fun _ _ _ _ _ _ us hl => match us, hl with | [_, _, _, _], _ => rfl
  obtain ⟨fd_m_Network_ddcontains, F_m_Network_ddcontains, G_m_Network_ddcontains⟩ := ok_m_Network_ddcontains (P := P) (w := w) (base := base) KX G c
  have B_m_Network_ddcontains : Binds K fd_m_Network_ddcontains P_m_Network_ddcontains [] := F_m_Network_ddcontains.bindsN fun _ _ _ _ _ _ us hl => match us, hl with | [_, _], _ => rfl
  refine ⟨fd, F, fn_ok F sc_d_law_strangers fun cdv A outer s H E hr => ?_⟩
  have hu : (cxOf CX0 P w K mg base N_d_law_strangers x_d_law_strangers.qual x_d_law_strangers.scope (He.fAd K x_d_law_strangers.at_) cdv A outer s H E).nox.A.units + 64 < cLine := by have := hr.un; show (A.deeper _).units + 64 < cLine; omega
  have hu5 : (cxOf CX0 P w K mg base N_d_law_strangers x_d_law_strangers.qual x_d_law_strangers.scope (He.fAd K x_d_law_strangers.at_) cdv A outer s H E).nox.A.units + 65 < cLine := by have := hr.un; show (A.deeper _).units + 65 < cLine; omega
  exact (vss_cons (vs_asg sc_d_law_strangers.nd rfl (by first | exact .inl rfl | exact .inr rfl) (by decide) (EvV.d (ev_sub hu (EvD.v ev_str) (EvD.v (ev_op op_mod modD_ok (EvD.v (ev_callT call_int1 intD_ok (by rfl) (He.free_ok KX G (c.fact 1 (f := .free "int") rfl)) (by decide +kernel) (ea_cons (ev_sub hu (ev_var (pv 3)) (EvD.v ev_int)) ea_nil))) (EvD.v ev_int))))))
    (vss_cons (vs_asg sc_d_law_strangers.nd rfl (by first | exact .inl rfl | exact .inr rfl) (by decide) (EvV.d (ev_sub hu (ev_var (pv 1)) (EvD.v (ev_op op_sub subD_ok (ev_var (pv 2)) (EvD.v ev_int))))))
    (vss_cons (vs_kill [2, 4, 1, 3] (vs_for PassesOwn.never rfl (vi_range1 (by rfl) (He.free_ok KX G (c.fact 2 (f := .free "range") rfl)) (ea_cons (EvD.v ev_int) ea_nil)) (vg_name sc_d_law_strangers.nd rfl (by first | exact .inl rfl | exact .inr rfl) (by decide))
    (vss_cons (vs_kill [6] (vs_asg sc_d_law_strangers.nd rfl (by first | exact .inl rfl | exact .inr rfl) (by decide) (ev_callP G_d_law_near (hr.mono (by decide)) (by rfl) (He.glo_ok KX G (c.fact 16 (f := .glo "_law_near") rfl)) F_d_law_near.kp B_d_law_near ar_runF (ea_cons (ev_var (pv 5)) (ea_cons (ev_var (pv 6)) (ea_cons (ev_sub hu (ev_var (pv 3)) (EvD.v ev_int)) (ea_cons (ev_var (pv 4)) ea_nil)))))))
    (vss_one (vs_kill [7] (vs_if (ev_test (op_neA hu) neD_ok (EvD.v (ev_cmp (op_inOwn (C := cl K 0) (He.meth_ok (c.fact 18 (f := .meth "Network" "__contains__") rfl)) G_m_Network_ddcontains (hr.mono (by decide)) B_m_Network_ddcontains) inOwn_ok (ev_var (pv 7)) (ev_var (pv 0)) (by rfl))) (EvD.v (ev_in hu5 (ev_var (pv 7)) (EvD.v (ev_slice (ev_var (pv 1)) eo_none (eo_some (ev_var (pv 2))))))) (nomark _))
    (vss_one (vs_ret ev_bl))
    vss_nil))))))
    (vss_one (vs_ret (ev_and (EvD.v (ev_cmp (op_ninOwn (C := cl K 0) (He.meth_ok (c.fact 18 (f := .meth "Network" "__contains__") rfl)) G_m_Network_ddcontains (hr.mono (by decide)) B_m_Network_ddcontains) inOwn_ok (EvD.v (ev_upper (ev_var (pv 5)))) (ev_var (pv 0)) (by rfl))) (ev_one (ev_cmp (op_ninOwn (C := cl K 0) (He.meth_ok (c.fact 18 (f := .meth "Network" "__contains__") rfl)) G_m_Network_ddcontains (hr.mono (by decide)) B_m_Network_ddcontains) inOwn_ok (EvD.v ev_str) (ev_var (pv 0)) (by rfl)))))))))
theorem sc_d_law : FnScope N_d_law P_d_law (defScope s_d_law) := ⟨rfl, rfl, rfl, by decide +kernel, rfl, by decide +kernel, by decide +kernel⟩
theorem ok_d_law (KX : K.In h) (G : h.Ns mainGlobals mg) (c : VI.SaysU fa fn us K) : ∃ fd, FunD K x_d_law.name x_d_law.qual x_d_law.params x_d_law.body x_d_law.scope (x_d_law.dvs K) (x_d_law.kws K) (He.fAd K x_d_law.at_) fd ∧
    FnOk P w K mg base CX0 7 (He.fAd K x_d_law.at_) fd P_d_law (SpF K (cl K) [] 1 f_d_law) := by
  obtain ⟨fd, F⟩ := c.def_ 13 (d := x_d_law) rfl
  obtain ⟨fd_d_law_row, F_d_law_row, G_d_law_row⟩ := ok_d_law_row (P := P) (w := w) (base := base) KX G c
  have B_d_law_row : Binds K fd_d_law_row P_d_law_row [] := F_d_law_row.bindsN fun _ _ _ _ _ _ us hl => match us, hl with | [_, _], _ => rfl
  obtain ⟨fd_d_law_cell, F_d_law_cell, G_d_law_cell⟩ := ok_d_law_cell (P := P) (w := w) (base := base) KX G c
  have B_d_law_cell : Binds K fd_d_law_cell P_d_law_cell [] := F_d_law_cell.bindsN fun _ _ _ _ _ _ us hl => match us, hl with | [_, _], _ => rfl
  obtain ⟨fd_m_Network_ddinit, F_m_Network_ddinit, G_m_Network_ddinit⟩ := ok_m_Network_ddinit (P := P) (w := w) (base := base) KX G c
  have B_m_Network_ddinit : Binds K fd_m_Network_ddinit P_m_Network_ddinit [] := F_m_Network_ddinit.bindsN fun _ _ _ _ _ _ us hl => match us, hl with | [_, _], _ => rfl
  obtain ⟨fd_d_law_name, F_d_law_name, G_d_law_name⟩ := ok_d_law_name (P := P) (w := w) (base := base) KX G c
  have B_d_law_name : Binds K fd_d_law_name P_d_law_name [] := F_d_law_name.bindsN fun _ _ _ _ _ _ us hl => match us, hl with | [_, _], _ => rfl
  obtain ⟨fd_m_Network_ddcontains, F_m_Network_ddcontains, G_m_Network_ddcontains⟩ := ok_m_Network_ddcontains (P := P) (w := w) (base := base) KX G c
  have B_m_Network_ddcontains : Binds K fd_m_Network_ddcontains P_m_Network_ddcontains [] := F_m_Network_ddcontains.bindsN fun _ _ _ _ _ _ us hl => match us, hl with | [_, _], _ => rfl
  obtain ⟨fd_d_law_holds, F_d_law_holds, G_d_law_holds⟩ := ok_d_law_holds (P := P) (w := w) (base := base) KX G c
  have B_d_law_holds : Binds K fd_d_law_holds P_d_law_holds [] := F_d_law_holds.bindsN fun _ _ _ _ _ _ us hl => match us, hl with | [_, _, _], _ => rfl
  obtain ⟨fd_d_law_add, F_d_law_add, G_d_law_add⟩ := ok_d_law_add (P := P) (w := w) (base := base) KX G c
  have B_d_law_add : Binds K fd_d_law_add P_d_law_add [] := F_d_law_add.bindsN fun _ _ _ _ _ _ us hl => match us, hl with | [_, _, _], _ => rfl
  obtain ⟨fd_d_law_strangers, F_d_law_strangers, G_d_law_strangers⟩ := ok_d_law_strangers (P := P) (w := w) (base := base) KX G c
  have B_d_law_strangers : Binds K fd_d_law_strangers P_d_law_strangers [] := F_d_law_strangers.bindsN fun _ _ _ _ _ _ us hl => match us, hl with | [_, _, _, _], _ => rfl
  obtain ⟨fd_m_Network_ddlen, F_m_Network_ddlen, G_m_Network_ddlen⟩ := ok_m_Network_ddlen (P := P) (w := w) (base := base) KX G c
  have B_m_Network_ddlen : Binds K fd_m_Network_ddlen P_m_Network_ddlen [] := F_m_Network_ddlen.bindsN fun _ _ _ _ _ _ us hl => match us, hl with | [_], _ => rfl
  obtain ⟨fd_m_Network_dditer, F_m_Network_dditer, G_m_Network_dditer⟩ := ok_m_Network_dditer (P := P) (w := w) KX G c
  have B_m_Network_dditer : Binds K fd_m_Network_dditer P_m_Network_dditer [] := F_m_Network_dditer.bindsN fun _ _ _ _ _ _ us hl => match us, hl with | [_], _ => rfl
  refine ⟨fd, F, fn_ok F sc_d_law fun cdv A outer s H E hr => ?_⟩
  have hu : (cxOf CX0 P w K mg base N_d_law x_d_law.qual x_d_law.scope (He.fAd K x_d_law.at_) cdv A outer s H E).nox.A.units + 64 < cLine := by have := hr.un; show (A.deeper _).units + 64 < cLine; omega
  have hu5 : (cxOf CX0 P w K mg base N_d_law x_d_law.qual x_d_law.scope (He.fAd K x_d_law.at_) cdv A outer s H E).nox.A.units + 65 < cLine := by have := hr.un; show (A.deeper _).units + 65 < cLine; omega
  exact (vss_cons (vs_asg sc_d_law.nd rfl (by first | exact .inl rfl | exact .inr rfl) (by decide) (ev_callP G_d_law_row (hr.mono (by decide)) (by rfl) (He.glo_ok KX G (c.fact 5 (f := .glo "_law_row") rfl)) F_d_law_row.kp B_d_law_row ar_runF (ea_cons (EvD.v (ev_callP G_d_law_cell (hr.mono (by decide)) (by rfl) (He.glo_ok KX G (c.fact 4 (f := .glo "_law_cell") rfl)) F_d_law_cell.kp B_d_law_cell ar_runF (ea_cons (ev_var (pv 0)) (ea_cons (EvD.v ev_int) ea_nil)))) (ea_cons (EvD.v ev_int) ea_nil))))
    (vss_cons (vs_asg sc_d_law.nd rfl (by first | exact .inl rfl | exact .inr rfl) (by decide) (ev_op op_mod modD_ok (EvD.v (ev_callT call_int1 intD_ok (by rfl) (He.free_ok KX G (c.fact 1 (f := .free "int") rfl)) (by decide +kernel) (ea_cons (ev_sub hu (ev_var (pv 1)) (EvD.v ev_int)) ea_nil))) (EvD.v ev_int)))
    (vss_cons (vs_asg sc_d_law.nd rfl (by first | exact .inl rfl | exact .inr rfl) (by decide) (ev_make (cl := cl K) (c := 0) (He.mkr_ok (c.fact 14 (f := .mkr "Network") rfl)) G_m_Network_ddinit (hr.mono (by decide)) (by rfl) (He.glo_ok KX G (c.fact 15 (f := .glo "Network") rfl)) B_m_Network_ddinit ar_runF (ea_cons (EvD.v (ev_op op_addA addD_ok (EvD.v ev_int) (EvD.v (ev_op op_mod modD_ok (EvD.v (ev_callT call_int1 intD_ok (by rfl) (He.free_ok KX G (c.fact 1 (f := .free "int") rfl)) (by decide +kernel) (ea_cons (ev_sub hu (ev_var (pv 1)) (EvD.v ev_int)) ea_nil))) (EvD.v ev_int))))) ea_nil)))
    (vss_cons (vs_kill [1] (vs_asg sc_d_law.nd rfl (by first | exact .inl rfl | exact .inr rfl) (by decide) (ev_make (cl := cl K) (c := 0) (He.mkr_ok (c.fact 14 (f := .mkr "Network") rfl)) G_m_Network_ddinit (hr.mono (by decide)) (by rfl) (He.glo_ok KX G (c.fact 15 (f := .glo "Network") rfl)) B_m_Network_ddinit ar_runF (ea_cons (EvD.v (ev_op op_addA addD_ok (EvD.v ev_int) (EvD.v (ev_op op_mod modD_ok (EvD.v (ev_callT call_int1 intD_ok (by rfl) (He.free_ok KX G (c.fact 1 (f := .free "int") rfl)) (by decide +kernel) (ea_cons (ev_sub hu (ev_var (pv 1)) (EvD.v ev_int)) ea_nil))) (EvD.v ev_int))))) ea_nil))))
    (vss_cons (vs_kill [0] (vs_asgLc (own := [("_law_k", 7)]) rfl sc_d_law.nd rfl rfl (sw_true rfl rfl rfl (by decide +kernel)) (by decide)  (vi_range1 (by rfl) (He.free_ok KX G (c.fact 2 (f := .free "range") rfl)) (ea_cons (ev_var (pv 2)) ea_nil)) (blkOk_by (own := [("_law_k", 7)]) (N := N_d_law) (sc := defScope s_d_law) (by decide +kernel)) (fun _ _ _ _ _ => eg_name sc_d_law.nd rfl (by first | exact .inl rfl | exact .inr rfl) (by decide)) (fun _ _ _ _ _ => ets_nil) (fun _ _ _ _ _ => (ev_callP G_d_law_row (hr.mono (by decide)) (by rfl) (He.glo_ok KX G (c.fact 5 (f := .glo "_law_row") rfl)) F_d_law_row.kp B_d_law_row ar_runF (ea_cons (EvD.v (ev_op op_addA addD_ok (EvD.v (ev_callP G_d_law_cell (hr.mono (by decide)) (by rfl) (He.glo_ok KX G (c.fact 4 (f := .glo "_law_cell") rfl)) F_d_law_cell.kp B_d_law_cell ar_runF (ea_cons (ev_var (pv 0)) (ea_cons (EvD.v (ev_op op_addA addD_ok (EvD.v ev_int) (ev_var (pv 7)))) ea_nil)))) (EvD.v (ev_op op_mulA mulD_ok (EvD.v ev_int) (ev_var (pv 7)))))) (ea_cons (EvD.v ev_int) ea_nil))))))
    (vss_cons (vs_asg sc_d_law.nd rfl (by first | exact .inl rfl | exact .inr rfl) (by decide) (ev_lst ed_nil))
    (vss_cons (vs_frz 5 (vs_for PassesOwn.never rfl (vi_range1 (by rfl) (He.free_ok KX G (c.fact 2 (f := .free "range") rfl)) (ea_cons (ev_var (pv 2)) ea_nil)) (vg_name sc_d_law.nd rfl (by first | exact .inl rfl | exact .inr rfl) (by decide))
    (vss_one (vs_kill [7] (vs_eff (ve_append (ep_name (pv 6)) (ev_callP G_d_law_name (hr.mono (by decide)) (by rfl) (He.glo_ok KX G (c.fact 17 (f := .glo "_law_name") rfl)) F_d_law_name.kp B_d_law_name ar_runF (ea_cons (ev_sub hu (ev_var (pv 5)) (ev_var (pv 7))) (ea_cons (ev_var (pv 6)) ea_nil)))))))))
    (vss_cons (vs_if (EvW.t (ew_or (et_not (ev_truth (EvD.v (ev_callP G_d_law_holds (hr.mono (by decide)) (by rfl) (He.glo_ok KX G (c.fact 23 (f := .glo "_law_holds") rfl)) F_d_law_holds.kp B_d_law_holds ar_runF (ea_cons (ev_var (pv 3)) (ea_cons (ev_var (pv 6)) (ea_cons (EvD.v ev_int) ea_nil))))) (fun _ => rfl))) (ew_or1 (ev_test (op_inOwn (C := cl K 0) (He.meth_ok (c.fact 18 (f := .meth "Network" "__contains__") rfl)) G_m_Network_ddcontains (hr.mono (by decide)) B_m_Network_ddcontains) inOwn_ok (EvD.v ev_str) (ev_var (pv 3)) (by rfl)))))
    (vss_one (vs_ret ev_bl))
    vss_nil)
    (vss_cons (vs_frz 5 (vs_kill [2, 6, 3, 5] (vs_for PassesOwn.never rfl (vi_range1 (by rfl) (He.free_ok KX G (c.fact 2 (f := .free "range") rfl)) (ea_cons (ev_var (pv 2)) ea_nil)) (vg_name sc_d_law.nd rfl (by first | exact .inl rfl | exact .inr rfl) (by decide))
    (vss_cons (vs_ifE (vt_notN (ve_call G_d_law_add (hr.mono (by decide)) (by rfl) (He.glo_ok KX G (c.fact 30 (f := .glo "_law_add") rfl)) F_d_law_add.kp B_d_law_add ar_runF (el_here (ep_name (pv 3)) (ea_cons (ev_sub hu (ev_var (pv 6)) (ev_var (pv 7))) (ea_cons (ev_sub hu (ev_var (pv 5)) (ev_var (pv 7))) ea_nil)))))
    (vss_one (vs_ret ev_bl))
    vss_nil)
    (vss_one (vs_kill [7] (vs_if (EvW.t (ew_or (et_not (ev_truth (EvD.v (ev_callP G_d_law_holds (hr.mono (by decide)) (by rfl) (He.glo_ok KX G (c.fact 23 (f := .glo "_law_holds") rfl)) F_d_law_holds.kp B_d_law_holds ar_runF (ea_cons (ev_var (pv 3)) (ea_cons (ev_var (pv 6)) (ea_cons (EvD.v (ev_op op_addA addD_ok (ev_var (pv 7)) (EvD.v ev_int))) ea_nil))))) (fun _ => rfl))) (ew_or1 (et_not (ev_truth (EvD.v (ev_callP G_d_law_strangers (hr.mono (by decide)) (by rfl) (He.glo_ok KX G (c.fact 31 (f := .glo "_law_strangers") rfl)) F_d_law_strangers.kp B_d_law_strangers ar_runF (ea_cons (ev_var (pv 3)) (ea_cons (ev_var (pv 6)) (ea_cons (EvD.v (ev_op op_addA addD_ok (ev_var (pv 7)) (EvD.v ev_int))) (ea_cons (ev_sub hu (ev_var (pv 5)) (ev_var (pv 7))) ea_nil)))))) (fun _ => rfl))))))
    (vss_one (vs_ret ev_bl))
    vss_nil)))))))
    (vss_one (vs_ret (ev_and (EvD.v (ev_cmp (op_eqA hu) eqD_ok (EvD.v (ev_callB (call_lenF (C := cl K 0) (He.meth_ok (c.fact 20 (f := .meth "Network" "__len__") rfl)) G_m_Network_ddlen (hr.mono (by decide)) B_m_Network_ddlen) lenF_ok (by rfl) (He.free_ok KX G (c.fact 3 (f := .free "len") rfl)) (by decide +kernel) (ea_cons (ev_var (pv 4)) ea_nil))) (EvD.v ev_int) (nomark _))) (ev_one (ev_cmp (op_eqA hu) eqD_ok (EvD.v (ev_callT (call_lstOwn (C := cl K 0) rfl (He.meth_ok (c.fact 20 (f := .meth "Network" "__len__") rfl)) G_m_Network_ddlen (hr.mono (by decide)) B_m_Network_ddlen (He.meth_ok (c.fact 21 (f := .meth "Network" "__iter__") rfl)) G_m_Network_dditer (hr.mono (by decide)) B_m_Network_dditer) lstF_ok (by rfl) (He.free_ok KX G (c.fact 22 (f := .free "list") rfl)) (by decide +kernel) (ea_cons (ev_var (pv 4)) ea_nil))) (EvD.v (ev_lst ed_nil)) (nomark _)))))))))))))))
end
theorem near_ap {s : Str} {c : Nat} {way place : Int} (h : NameOk s) (hc : 97 ≤ c ∧ c ≤ 122) : ∃ r, ap f_d_law_near [.str s, .int way, .int place, .str ⟨#[c]⟩] = some (.str r) ∧ r.length ≤ 24 ∧ Low r := by
  have h1 := h.one
  have h8 := h.eight
  have big := line_big
  have hl : s.length ≤ sizeLine := by omega
  have hp : 0 < s.length := by omega
  have a1 := cutS_len (s := s) (lo := none) (hi := some (place % (s.length : Int)))
  have a2 := cutS_len (s := s) (lo := some (place % (s.length : Int) + 1)) (hi := none)
  have l1 := Low.cut (s := s) h.low none (some (place % (s.length : Int)))
  have l2 := Low.cut (s := s) h.low (some (place % (s.length : Int) + 1)) none
  generalize e1 : cutS s none (some (place % (s.length : Int))) = r1 at *
  generalize e2 : cutS s (some (place % (s.length : Int) + 1)) none = r2 at *
  have s1 : r1.length + 1 ≤ sizeLine := by omega
  have s2 : r1.length + 1 + r2.length ≤ sizeLine := by omega
  have s3 : 1 + s.length ≤ sizeLine := by omega
  have s4 : s.length + 1 ≤ sizeLine := by omega
  have s5 : r1.length + r2.length ≤ sizeLine := by omega
  by_cases w0 : way = 0
  · exact ⟨r1 ++ ⟨#[c]⟩ ++ r2, ap_run rfl (by simp [env0, b_d_law_near, hl, hp, w0, e1, e2, s1, s2]) (by simp), by simp; omega, (l1.app (.one hc)).app l2⟩
  by_cases w1 : way = 1
  · exact ⟨⟨#[c]⟩ ++ s, ap_run rfl (by simp [env0, b_d_law_near, hl, hp, w0, w1, s3]) (by simp), by simp; omega, (Low.one hc).app h.low⟩
  by_cases w2 : way = 2
  · exact ⟨s ++ ⟨#[c]⟩, ap_run rfl (by simp [env0, b_d_law_near, hl, hp, w0, w1, w2, s4]) (by simp), by simp; omega, Low.app h.low (.one hc)⟩
  · exact ⟨r1 ++ r2, ap_run rfl (by simp [env0, b_d_law_near, hl, hp, w0, w1, w2, e1, e2, s5]) (by simp), by simp; omega, l1.app l2⟩
theorem name_ap {row : List Int} {names : List Str} {b c : Bool} (rl : row.length = 14) (rb : Digits row) (nd : names.Nodup) (hok : ∀ s ∈ names, NameOk s) (hn : names.length ≤ 7) :
    ∃ r, ap f_d_law_name [.lst b (row.map D.int), .lst c (names.map D.str)] = some r ∧ ∃ s, r = .str s ∧ NameOk s ∧ s ∉ names := by
  obtain ⟨x0, e0, _⟩ := row_at (row := row) (i := 0) (by omega) (by omega)
  obtain ⟨x1, e1, _⟩ := row_at (row := row) (i := 1) (by omega) (by omega)
  obtain ⟨x2, e2, _⟩ := row_at (row := row) (i := 2) (by omega) (by omega)
  obtain ⟨x3, e3, _⟩ := row_at (row := row) (i := 3) (by omega) (by omega)
  have big := line_big
  have hr := rangeD1_int (i := 1 + x1 % 8) (by omega) (by omega)
  have l26 : (Str.ofString "abcdefghijklmnopqrstuvwxyz").length ≤ sizeLine := by rw [letters_len]; omega
  have hit : items' (.str "stuvwxyz") = some ((List.range 8).map fun k => D.str ⟨#[115 + k]⟩) := by
    simp only [items_str]
    rw [show (Str.ofString "stuvwxyz").cps.toList = List.range' 115 8 from by decide +kernel]; rfl
  have tail : ∀ s, NameOk s → ∃ s', forB (tgN 5) l2_d_law_name ((List.range 8).map fun k => D.str ⟨#[115 + k]⟩) [none, some (.lst false (names.map D.str)), none, some (.str s), none, none, none] = some (.nx [none, some (.lst false (names.map D.str)), none, some (.str s'), none, none, none]) ∧ NameOk s' ∧ s' ∉ names := by
    intro s ok
    obtain ⟨s2, h2, ok2, hin⟩ := for_inv (g := tgN 5) (mb := l2_d_law_name) (fun k : Nat => D.str ⟨#[115 + k]⟩)
      (fun s : Str => [none, some (.lst false (names.map D.str)), none, some (.str s), none, none, none])
      (fun j s => NameOk s ∧ (s ∈ names → ∀ m < j, repS (115 + m) (1 + names.length) ∈ names)) (List.range 8) s ⟨ok, fun _ m hm => by omega⟩ (by
        rintro j k s hk ⟨ok, hin⟩
        obtain ⟨rfl, hj⟩ := range_at hk
        by_cases hs : s ∈ names
        · have hm : mulD (.str ⟨#[115 + k]⟩) (.int (1 + (names.length : Int))) = some (.str (repS (115 + k) (1 + names.length))) := by
            show (if _ then some (D.str (Txt.mul _ _)) else none) = _
            rw [if_pos ⟨by simp, by omega, by omega⟩, ← mul_sign (115 + k) (1 + names.length) (by omega)]
            congr 3
          refine ⟨repS (115 + k) (1 + names.length), .inl (by simp [l2_d_law_name, hs, hm]), repS_ok (by omega) (by omega) (by omega), fun hs' m hm => ?_⟩
          by_cases hm2 : m = k
          · subst hm2; exact hs'
          · exact hin hs m (by omega)
        · exact ⟨s, .inl (by simp [l2_d_law_name, hs]), ok, fun h => absurd h hs⟩)
    refine ⟨s2, h2, ok2, fun h => ?_⟩
    have hall := hin h
    have hsub : ((List.range 8).map fun m => repS (115 + m) (1 + names.length)) ⊆ names := fun y hy => by
      simp only [List.mem_map, List.mem_range] at hy
      obtain ⟨m, hm, rfl⟩ := hy
      exact hall m (by simpa using hm)
    have hnd2 : ((List.range 8).map fun m => repS (115 + m) (1 + names.length)).Nodup := by
      show List.Pairwise _ _
      rw [List.pairwise_map]
      refine List.Pairwise.imp (fun {a b} h e => h ?_) List.nodup_range
      have := repS_inj (by omega) e
      omega
    have := hnd2.length_le_of_subset hsub
    simp at this
    omega
  refine ap_ex rfl ?_
  simp [env0, b_d_law_name, e1, hr]
  generalize hF : forB _ _ _ _ = o
  obtain ⟨s1, rfl, hs1, hs2⟩ := for_invS hF (fun s : Str => [(3, some (.str s))]) (fun j s => s.length = j ∧ Low s) (Str.ofString "") rfl ⟨nil_len, low_nil⟩ (by
    rintro j k s hk ⟨hl1, hl2⟩
    obtain ⟨rfl, hj⟩ := range_at hk
    obtain ⟨x, hx, _⟩ := row_at (row := row) (i := 4 + (k : Int)) (by omega) (by omega)
    obtain ⟨c, hc1, hc2⟩ := letter_at (p := x % 26) (by omega) (by omega)
    have hsl : s.length + 1 ≤ sizeLine := by omega
    exact ⟨s ++ ⟨#[c]⟩, .inl (by simp [l1_d_law_name, hx, hc1, l26, hsl]), by simp [hl1], hl2.app (.one hc2)⟩)
  clear hF
  simp only [List.length_range] at hs1
  have ok1 : NameOk s1 := .of hs2 (by omega) (by omega)
  by_cases hc : 0 < names.length ∧ x0 % 2 = 1
  · obtain ⟨c1, c2⟩ := hc
    obtain ⟨l, hl, ml⟩ := get_some (xs := names) (i := names.length - 1) (by omega)
    have al := map_at (f := D.str) hl
    rw [show ((names.length - 1 : Nat) : Int) = (names.length : Int) - 1 by omega] at al
    obtain ⟨c, hc1, hc2⟩ := letter_at (p := x3 % 26) (by omega) (by omega)
    obtain ⟨r, hr1, hr2, hr3⟩ := near_ap (way := x1 % 4) (place := x2) (hok l ml) hc2
    have hrl : r.length ≤ sizeLine := by omega
    by_cases h18 : 1 ≤ r.length ∧ r.length ≤ 8
    · obtain ⟨s', t1, t2, t3⟩ := tail r (.of hr3 h18.1 h18.2)
      have g1 : (1 : Int) ≤ r.length := by omega
      have g2 : (r.length : Int) ≤ 8 := by omega
      exact ⟨.str s', by simp [e0, e1, e2, e3, c1, c2, al, hc1, l26, hr1, hrl, g1, g2, hit, t1], by simp, s', rfl, t2, t3⟩
    · obtain ⟨s', t1, t2, t3⟩ := tail s1 ok1
      by_cases g1 : (1 : Int) ≤ r.length
      · have g2 : ¬ (r.length : Int) ≤ 8 := by omega
        exact ⟨.str s', by simp [e0, e1, e2, e3, c1, c2, al, hc1, l26, hr1, hrl, g1, g2, hit, t1], by simp, s', rfl, t2, t3⟩
      · exact ⟨.str s', by simp [e0, e1, e2, e3, c1, c2, al, hc1, l26, hr1, hrl, g1, hit, t1], by simp, s', rfl, t2, t3⟩
  · obtain ⟨s', t1, t2, t3⟩ := tail s1 ok1
    by_cases c1 : 0 < names.length
    · have c2 : ¬ x0 % 2 = 1 := fun h => hc ⟨c1, h⟩
      exact ⟨.str s', by simp [e0, c1, c2, hit, t1], by simp, s', rfl, t2, t3⟩
    · exact ⟨.str s', by simp [e0, c1, hit, t1], by simp, s', rfl, t2, t3⟩
theorem holds_ap {N : Net} {names : List Str} {b c : Bool} {i : Nat} (nd : names.Nodup) (hok : ∀ s ∈ names, NameOk s) (hn : names.length ≤ 8) (hi : i ≤ names.length) (hN : N.names = names.take i) :
    ap f_d_law_holds [netD b N, .lst c (names.map D.str), .int i] = some (.bl true) := by
  have hl8 : N.names.length ≤ 8 := by rw [hN]; simp; omega
  have h1 := lenF_net (b := false) hl8
  have h2 := lstF_net (b := false) hl8
  have hlen : (N.names.length : Int) = i := by rw [hN]; simp; omega
  have h3 := slice_to (b := false) (f := D.str) (xs := names) (k := i) (fun _ => rfl) hi
  have h4 := names_ne (b := true) (c := true) (ks := names.take i) fun s hs => hok s (List.mem_of_mem_take hs)
  rw [hlen] at h1
  rw [hN] at h2
  have hr := rangeD1_nat (n := names.length) (by omega)
  have hmem := fun (k : Nat) (s : Str) (hs : names[k]? = some s) => mem_take (i := i) nd hs
  generalize names.take i = tk at *
  refine ap_run rfl ?_ (by simp)
  simp [env0, b_d_law_holds, h1, h2, h3, h4, hr, -sliceD_lst, -neD_ll]
  generalize hF : forB _ _ _ _ = o
  have := for_allS hF (fun k hk => by
    have hk := List.mem_range.mp hk
    obtain ⟨s, hs, _⟩ := get_some (xs := names) (i := k) hk
    have a1 := map_at (f := D.str) hs
    have hc := contains_ap (b := false) (N := N) (s := s)
    have hm := hmem k s hs
    rw [hN] at hc
    exact .inl (by by_cases h : k < i <;> simp [l1_d_law_holds, a1, hc, hm, h]))
  subst this
  simp
theorem add_ap {N : Net} {row : List Int} {b c : Bool} {s : Str} {i : Nat} (ok : N.Ok) (hs : N.names[i]? = some s) (rl : row.length = 14)
    (h1 : N.look s = if row.getD 12 0 % 4 = 0 ∨ row.getD 12 0 % 4 = 1 then false else decide (row.getD 13 0 / 8 % 2 = 1)) (h2 : N.need s = if row.getD 12 0 % 4 = 0 ∨ row.getD 12 0 % 4 = 2 then 1 else 1 + row.getD 13 0 % 8) :
    apL 0 f_d_law_add [netD true { N with names := N.names.take i, lines := [] }, .str s, .lst c (row.map D.int)] = some (.non, netD true { N with names := N.names.take (i + 1), lines := [] }) := by
  have a12 := row_get (row := row) (k := 12) (i := 12) (by omega) rfl
  have a13 := row_get (row := row) (k := 13) (i := 13) (by omega) rfl
  have hadd := addK_ap ok hs
  generalize row.getD 12 0 = x at *
  generalize row.getD 13 0 = y at *
  have hx : x % 4 = 0 ∨ x % 4 = 1 ∨ x % 4 = 2 ∨ x % 4 = 3 := by omega
  refine apL_run rfl ?_
  rcases hx with e | e | e | e <;> simp [e] at h1 h2 <;> rw [h1, h2] at hadd <;> simp [env0, b_d_law_add, a12, a13, e, hadd]
theorem strangers_ap {N : Net} {names : List Str} {row : List Int} {b c d : Bool} {i : Nat} (hok : ∀ s ∈ names, NameOk s) (hn : names.length ≤ 8) (h0 : 0 < i) (hi : i ≤ names.length) (hN : N.names = names.take i) (rl : row.length = 14) :
    ap f_d_law_strangers [netD b N, .lst c (names.map D.str), .int i, .lst d (row.map D.int)] = some (.bl true) := by
  obtain ⟨x2, e2, _⟩ := row_at (row := row) (i := 2) (by omega) (by omega)
  obtain ⟨x3, e3, _⟩ := row_at (row := row) (i := 3) (by omega) (by omega)
  have big := line_big
  have l26 : (Str.ofString "abcdefghijklmnopqrstuvwxyz").length ≤ sizeLine := by rw [letters_len]; omega
  obtain ⟨c, hc1, hc2⟩ := letter_at (p := x3 % 26) (by omega) (by omega)
  obtain ⟨s, hs, ms⟩ := get_some (xs := names) (i := i - 1) (by omega)
  have al := map_at (f := D.str) hs
  rw [show ((i - 1 : Nat) : Int) = (i : Int) - 1 by omega] at al
  have ok := hok s ms
  have hlow : ∀ t ∈ names.take i, NameOk t := fun t ht => hok t (List.mem_of_mem_take ht)
  have u1 : Txt.upper s ∉ names.take i := fun z => upper_ne ok (hlow _ z).low rfl
  have u2 := nil_notin hlow
  have h8 := ok.eight
  have hul : s.length ≤ 1000000 := by omega
  have c1 := contains_ap (b := false) (N := N) (s := Txt.upper s)
  have c2 := contains_ap (b := false) (N := N) (s := Str.ofString "")
  rw [hN] at c1 c2
  have h3 := slice_to (b := false) (f := D.str) (xs := names) (k := i) (fun _ => rfl) hi
  generalize names.take i = tk at *
  have hr : rangeD1 [.int 4] = some ((List.range 4).map fun k : Nat => D.int k) := rangeD1_nat (n := 4) (by omega)
  refine ap_run rfl ?_ (by simp)
  simp [env0, b_d_law_strangers, e3, hc1, l26, al, hr]
  generalize hF : forB _ _ _ _ = o
  have := for_allS hF (fun k hk => by
    obtain ⟨r, hr1, hr2, hr3⟩ := near_ap (way := (k : Int)) (place := x2) ok hc2
    have cr := contains_ap (b := false) (N := N) (s := r)
    rw [hN] at cr
    exact .inl (by simp [l1_d_law_strangers, e2, hr1, cr, h3, -sliceD_lst]))
  subst this
  simp [hul, c1, c2, u1, u2]
theorem dig8 (y : Int) : 1 ≤ 1 + y % 8 ∧ 1 + y % 8 ≤ 8 := by omega
theorem pure_law (ns : List Int) (hl : ns.length ≤ 63) : ∃ A, f_d_law [.scr ns] = some (.bl true, A) := by
  obtain ⟨c0, hc0⟩ := cell_ex ns 0
  obtain ⟨row, rl, rb, rg⟩ := row_ex c0 2
  obtain ⟨x0, e0, _⟩ := row_at (row := row) (i := 0) (by omega) (by omega)
  obtain ⟨x1, e1, _⟩ := row_at (row := row) (i := 1) (by omega) (by omega)
  obtain ⟨n, hn⟩ : ∃ n : Nat, x0 % 9 = n := ⟨(x0 % 9).toNat, by omega⟩
  have hn8 : n ≤ 8 := by omega
  obtain ⟨dawn, hdw⟩ : ∃ d, 1 + x1 % 100 = d := ⟨_, rfl⟩
  have hi := init_ap dawn (by omega) (by omega)
  have hrn := rangeD1_nat (n := n) (by omega)
  -- the rows of digits
  obtain ⟨rows, rll, rok, rq⟩ := lc_ex (c := c1_d_law [some (.scr ns), none, some (.int n), some (netD true (Net.new dawn)), some (netD true (Net.new dawn)), none, none, none]) (fun k : Nat => D.int k) (fun r : List Int => D.lst true (r.map D.int)) (fun r => r.length = 14 ∧ Digits r) (List.range n) (fun k hk => by
    have hk := List.mem_range.mp hk
    have hc := cell_ap ns (1 + k)
    rw [show (((1 + k : Nat)) : Int) = 1 + (k : Int) by omega] at hc
    generalize ns.getD (1 + k) 0 = cc at *
    obtain ⟨r, h1, h2, h3⟩ := row_ex (cc + 31 * (k : Int)) 14
    exact ⟨r, by simp [c1_d_law, hc, h3], by omega, h2⟩)
  simp only [List.length_range] at rll
  refine law_run rfl ?_
  have hnl : n ≤ 100000 := by omega
  simp [env0, b_d_law, hc0, rg, e0, e1, hn, hdw, hi, hrn, rq, hnl]
  generalize hF : forB _ _ _ _ = o
  obtain ⟨names, rfl, hnm, hnd, hok⟩ := for_invS hF (fun names : List Str => [(5, some (.lst false (rows.map fun r => .lst false (r.map fun x => D.int x)))), (6, some (.lst true (names.map D.str)))]) (fun j names => names.length = j ∧ names.Nodup ∧ ∀ s ∈ names, NameOk s) [] rfl ⟨rfl, List.nodup_nil, by simp⟩ (by
    rintro j k names hk ⟨hl1, hnd, hok⟩
    obtain ⟨rfl, hj⟩ := range_at hk
    obtain ⟨r, hr, mr⟩ := get_some (xs := rows) (i := k) (by omega)
    have ar := map_at (f := fun r : List Int => D.lst false (r.map fun x => D.int x)) hr
    obtain ⟨_, hs, s, rfl, s2, s3⟩ := name_ap (b := false) (c := true) (rok r mr).1 (rok r mr).2 hnd hok (by omega)
    have hlen : names.length < 1000000 := by omega
    refine ⟨names ++ [s], .inl (by simp [l2_d_law, ar, hs, hlen]), by simp [hl1], ?_, ?_⟩
    · rw [List.nodup_append]; exact ⟨hnd, by simp, fun a ha b hb e => s3 (by simp at hb; rw [← hb, ← e]; exact ha)⟩
    · intro y hy
      rcases List.mem_append.mp hy with hy | hy
      · exact hok y hy
      · simp at hy; subst hy; exact s2)
  clear hF
  simp only [List.length_range] at hnm
  -- the network that comes
  obtain ⟨N, hN⟩ : ∃ N : Net, N = ⟨dawn, names, fun s => if (rows.getD (ixS names s) []).getD 12 0 % 4 = 0 ∨ (rows.getD (ixS names s) []).getD 12 0 % 4 = 1 then false else decide ((rows.getD (ixS names s) []).getD 13 0 / 8 % 2 = 1),
    fun s => if (rows.getD (ixS names s) []).getD 12 0 % 4 = 0 ∨ (rows.getD (ixS names s) []).getD 12 0 % 4 = 2 then 1 else 1 + (rows.getD (ixS names s) []).getD 13 0 % 8, []⟩ := ⟨_, rfl⟩
  have hNn : N.names = names := by rw [hN]
  have ok : N.Ok := by
    subst hN
    exact ⟨by show 1 ≤ dawn; omega, by show dawn ≤ 100; omega, hnd, by show names.length ≤ 8; omega, hok, fun s hs => by
      show 1 ≤ (if _ then (1 : Int) else 1 + (rows.getD (ixS names s) []).getD 13 0 % 8) ∧ (if _ then (1 : Int) else 1 + (rows.getD (ixS names s) []).getD 13 0 % 8) ≤ 8
      generalize (rows.getD (ixS names s) []).getD 13 0 = y
      have h8 := dig8 y
      split
      · omega
      · exact h8, by simp, by simp⟩
  have ei : netD true (Net.new dawn) = netD true { N with names := N.names.take 0, lines := [] } := netD_congr (by rw [hN]; rfl) (by simp [Net.new]) (by simp [Net.new]) rfl
  have h0 := holds_ap (N := Net.new dawn) (b := true) (c := true) (i := 0) hnd hok (by omega) (by omega) (by simp [Net.new])
  have hnil := contains_ap (b := true) (N := Net.new dawn) (s := Str.ofString "")
  have hln := lenF_net (N := Net.new dawn) (b := true) (by simp [Net.new])
  have hls := lstF_net (N := Net.new dawn) (b := true) (by simp [Net.new])
  have hnn : (Net.new dawn).names = [] := rfl
  rw [hnn] at hnil hln hls
  have h0' : ((0 : Nat) : Int) = 0 := rfl
  rw [h0'] at h0
  simp [h0, hnil, hrn]
  generalize hF : forB _ _ _ _ = o
  have := for_detS hF (fun i => [(3, some (netD true { N with names := N.names.take i, lines := [] }))]) (by rw [← ei]; rfl) (fun i k hk => by
    obtain ⟨rfl, hi⟩ := range_at hk
    obtain ⟨r, hr, mr⟩ := get_some (xs := rows) (i := k) (by omega)
    have ar := map_at (f := fun r : List Int => D.lst false (r.map fun x => D.int x)) hr
    obtain ⟨s, hs, ms⟩ := get_some (xs := names) (i := k) (by omega)
    have as_ := map_at (f := D.str) hs
    have hix := ixS_at hnd hs
    have hrg : rows.getD k [] = r := by rw [List.getD_eq_getElem?_getD, hr]; rfl
    have hadd := add_ap (N := N) (row := r) (b := true) (c := false) ok (by rw [hNn]; exact hs) (rok r mr).1 (by rw [hN]; show (if _ then _ else _) = _; rw [hix, hrg]) (by rw [hN]; show (if _ then _ else _) = _; rw [hix, hrg])
    have hh := holds_ap (N := { N with names := N.names.take (k + 1), lines := [] }) (b := true) (c := true) (i := k + 1) hnd hok (by omega) (by omega) (by rw [hNn])
    have hst := strangers_ap (N := { N with names := N.names.take (k + 1), lines := [] }) (row := r) (b := true) (c := true) (d := false) (i := k + 1) hok (by omega) (by omega) (by omega) (by rw [hNn]) (rok r mr).1
    rw [show (((k + 1 : Nat)) : Int) = (k : Int) + 1 by omega] at hh hst
    exact .inl (by simp [l3_d_law, ar, as_, hadd, hh, hst]))
  subst this
  simp [hln, hls]
def loose : List PySem.Str := ["_wall", "FogError", "InvalidName", "DuplicateEntry", "NetworkFull", "InvalidNumber", "LETTERS", "MOST_KEEPERS", "MOST_NAME", "MOST_NEED", "MOST_DAWN", "is_name", "Network", "_law_cell", "_law_row", "_law_near", "_law_name", "_law_add", "_law_holds", "_law_strangers"]
abbrev R : PySem.W.OpenRow := PySem.W.OpenLaw.row PySem.Challenge.rw_fogbeacons_k01_keepers_in_order
abbrev hk : PySem.W.Hook := VI.hookU 6 fa fn us
def ob (s : PySem.W.SharedT) : VI.AlU := VI.obsUG 6 fa fn us (HandSHeadRun.getT s)
theorem ob_eq (s : PySem.W.SharedT) : ob s = hk.obs s.abs := VI.obsUG_eq (HandSHeadRun.getT_eq s)
theorem run (w : World) : HandSHeadRun.RunEq R (PySem.W.view R.prog [23]) hk ob 20000 loose w := by
  intro os
  kernel_rfl
theorem facts {P : Program} {w : World} {K : PySem.W.Frag} {h : Heap} {mg : Str → Option Value} {f : Addr} (X : K.In h) (G : h.Ns mainGlobals mg) (hfa : mg ("law" : Str) = some (.ref f)) (c : VI.SaysU fa fn us K) :
    ∃ fd : FuncData, (∀ (s : Shared) (v : Value), BindsTo s fd ⟨[v], []⟩ [("_law_script", v)]) ∧ ∀ base : Heap, K.In base → base.Ns mainGlobals mg → FnOk P w K mg base CX0 7 f fd ["_law_script"] (SpF K (cl K) [] 1 f_d_law) := by
  obtain ⟨fd, F⟩ := c.def_ 13 (d := x_d_law) rfl
  have e := hfa.symm.trans (He.glo_ok X G (c.fact 32 (f := .glo "law") rfl))
  cases e
  have b := FunD.bindsA (ps := ["_law_script"]) F fun _ _ _ _ _ _ us hl => match us, hl with | [_], _ => rfl
  refine ⟨fd, fun s v => b s [v] rfl, fun base _ _ => ?_⟩
  obtain ⟨fd2, F2, ok⟩ := ok_d_law (P := P) (w := w) (base := base) X G c
  have e2 : fd = fd2 := FunD_uniq F F2
  rw [e2]; exact ok
end Lk01
open PySem PySem.W PySem.Calls PyProof.Rows
theorem PySem.Challenge.cw_fogbeacons_k01_keepers_in_order_holds : PySem.Challenge.rw_fogbeacons_k01_keepers_in_order.Holds := by
  w_on; o_law
  refine HandSHeadRun.head_any (r := OpenLaw.row PySem.Challenge.rw_fogbeacons_k01_keepers_in_order) (q := view (OpenLaw.row PySem.Challenge.rw_fogbeacons_k01_keepers_in_order).prog [23]) (H := Lk01.hk) (ob := Lk01.ob) (M := 20000) (loose := Lk01.loose) (d := HandSHeadRun.topDef (OpenLaw.row PySem.Challenge.rw_fogbeacons_k01_keepers_in_order).prog 23) (kwd := []) Lk01.ob_eq
    (by kernel_rfl) (fun s => by kernel_rfl) Lk01.run (by kernel_rfl) (by kernel_rfl) (by kernel_rfl) (by rfl) (by first | assumption | decide +kernel) (by decide +kernel) ⟨rfl, rfl, rfl, rfl, rfl, by decide +kernel⟩ ?hw ?hc
  case hw => w_witness2
  case hc =>
    refine L2.walk_ofE (l := PySem.Challenge.rw_fogbeacons_k01_keepers_in_order) (n := 63) (k := 7) (x := "_law_script") (CX := L2.CX0) rfl (by decide) (by kernel_rfl) ⟨rfl, by decide, by decide⟩ ?F (fun _ _ _ _ z => z)
    intro w mg fa h Y G hmg0
    obtain ⟨K, KX, c⟩ := Y
    have hmg : mg ("law" : PySem.Str) = some (.ref fa) := by
      have e : (HandSHeadRun.topDef (OpenLaw.row PySem.Challenge.rw_fogbeacons_k01_keepers_in_order).prog 23).name = ("law" : PySem.Str) := by kernel_rfl
      rw [← e]
      exact hmg0
    obtain ⟨fd, hb, hF⟩ := Lk01.facts (P := (PySem.Challenge.rw_fogbeacons_k01_keepers_in_order).prog) (w := w) KX G hmg c
    refine ⟨K, fd, VI.SpF K (Lk01.cl K) [] 1 Lk01.f_d_law, KX, hb, fun H a ns hl _ hS => ?_, hF⟩
    exact VI.sp_law hS (Lk01.pure_law ns hl)
