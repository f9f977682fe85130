import PyProof.Rows.All
import Wide.All
import OpenK.AllK
import Wide.FinOn
import HandS.ForMost
import HandS.Exc
import HandS.ExcOwn
import HandS.WordsExc
import HandS.CallSlots
import HandS.IsInst
import HandS.Wide
import HandS.WideMore
import HandS.WideBits
import HandS.Deep
import HandS.TupAny
import HandS.TupMul
import HandS.Style
import HandS.Conv
import HandS.SortInts
import HandS.Zip
import HandS.Rev
import HandS.RevRange
import HandS.DictTup
import HandS.RaiseMore
import HandS.TupLe
import HandS.NoneIn
import HandS.Lambda
import KE.KIndexOf
import KE.DatumIndex
import KE.GoesNew
import KE.GoesMore
import HandS.SetFor
import HandS.TupLen
import HandS.WordsDict
import PyProof.Rows.TupDisplay
import KE.GoesEnum
import KE.KMulAny
import PySem.Challenge.RW_wordhouse_k75_whole_levels
set_option Elab.async false
set_option linter.all false
set_option maxRecDepth 100000
set_option maxHeartbeats 8000000
set_option autoImplicit false
namespace Y
open PySem PySem.Spec PyProof.Rows L2
abbrev Sg := L2.St
/-! ### data without a heap -/
inductive D where
  | non | bl (b : Bool) | int (i : Int) | str (s : Str)
  | tup (ds : List D) | lst (ds : List D)
  | dct (ks : List Key) (ds : List D) | dctT (ks : List (List Key)) (ds : List D)
  | ins (c : Str) (fs : List Str) (ds : List D)
  | live (k : Nat) | scr (ns : List Int) | tupF (ds : List D)
instance : Inhabited D := ⟨.non⟩
/-- frozen part of the heap, addresses of live objects -/
structure Bs where
  H0 : Hp
  A : Nat → Option Addr
/-- names -/
structure Kn where
  K : PySem.W.Frag
  mg : Str → Option Value
  T : List (Addr × Str)
mutual
def IsD (n : Kn) (B : Bs) : D → V → Prop
  | .non, v => v = .non
  | .bl b, v => v = .bl b
  | .int i, v => v = .int i
  | .str s, v => v = .str s
  | .tup ds, v => ∃ a vs, v = .ref a ∧ SqT n.K B.H0 a vs ∧ IsDs n B ds vs
  | .lst ds, v => ∃ a vs, v = .ref a ∧ Rd B.H0 a (.lst vs) ∧ IsDs n B ds vs
  | .scr ns, v => ∃ a, v = .ref a ∧ SqL n.K B.H0 a (ns.map V.int)
  | .dct ks ds, v => ∃ a vs, v = .ref a ∧ Rd B.H0 a (.dK (ks.zip vs)) ∧ ks.length = ds.length ∧ IsDs n B ds vs
  | .dctT ks ds, v => ∃ a vs, v = .ref a ∧ Rd B.H0 a (.dT (ks.zip vs)) ∧ ks.length = ds.length ∧ IsDs n B ds vs
  | .ins c fs ds, v => ∃ a C dx vs, v = .ref a ∧ n.mg c = some (.ref C) ∧ B.H0 a = some (.ins C dx (fs.zip vs)) ∧ fs.length = ds.length ∧ IsDs n B ds vs
  | .live k, v => ∃ a, v = .ref a ∧ B.A k = some a
  | .tupF ds, v => ∃ a vs o, v = .ref a ∧ B.H0 a = some (.frz o (.tup vs)) ∧ o.dict = none ∧ IsDs n B ds vs
def IsDs (n : Kn) (B : Bs) : List D → List V → Prop
  | [], vs => vs = []
  | d :: ds, vs => ∃ v r, vs = v :: r ∧ IsD n B d v ∧ IsDs n B ds r
end
/-- what may be locked while it is walked -/
def Lk : HO → Prop
  | .dK _ => True
  | .dT _ => True
  | _ => False
/-- what stands in H stands in H', dicts perhaps locked -/
def Up (H H' : Hp) : Prop := ∀ a o, H a = some o → H' a = some o ∨ (Lk o ∧ ∃ od, H' a = some (.frz od o))
theorem Up.of {H H' : Hp} (h : ∀ a o, H a = some o → H' a = some o) : Up H H' := fun a o e => .inl (h a o e)
theorem Up.refl (H : Hp) : Up H H := fun _ _ h => .inl h
theorem Up.trans {H H1 H2 : Hp} (x : Up H H1) (y : Up H1 H2) : Up H H2 := fun a o h => by
  rcases x a o h with h | ⟨k, od, h⟩
  · exact y a o h
  · rcases y a _ h with h | ⟨k', _⟩
    · exact .inr ⟨k, od, h⟩
    · exact k'.elim
theorem Up.keep {H H' : Hp} (x : Up H H') {a : Addr} {o : HO} (h : H a = some o) (n : ¬ Lk o) : H' a = some o := by
  rcases x a o h with h | ⟨k, _⟩
  · exact h
  · exact absurd k n
structure Bs.le (B B' : Bs) : Prop where
  h0 : Up B.H0 B'.H0
  lv : ∀ k a, B.A k = some a → B'.A k = some a
theorem Bs.le.refl (B : Bs) : B.le B := ⟨Up.refl _, fun _ _ h => h⟩
theorem Bs.le.trans {B B1 B2 : Bs} (a : B.le B1) (b : B1.le B2) : B.le B2 := ⟨a.h0.trans b.h0, fun k x h => b.lv k x (a.lv k x h)⟩
theorem sqT_mono {K : PySem.W.Frag} {H H' : Hp} {a : Addr} {xs : List V} (e : Up H H') (h : SqT K H a xs) : SqT K H' a xs := by
  rcases h with (h | ⟨o, h⟩) | h
  · exact .inl (.inl (e.keep h id))
  · exact .inl (.inr ⟨o, e.keep h id⟩)
  · exact .inr h
theorem sqL_mono {K : PySem.W.Frag} {H H' : Hp} {a : Addr} {xs : List V} (e : Up H H') (h : SqL K H a xs) : SqL K H' a xs := by
  rcases h with (h | ⟨o, h⟩) | h
  · exact .inl (.inl (e.keep h id))
  · exact .inl (.inr ⟨o, e.keep h id⟩)
  · exact .inr h
theorem rd_mono {H H' : Hp} {a : Addr} {u : HO} (e : Up H H') (h : Rd H a u) : Rd H' a u := by
  rcases h with h | ⟨o, h⟩
  · rcases e a u h with h | ⟨_, od, h⟩
    · exact .inl h
    · exact .inr ⟨od, h⟩
  · exact .inr ⟨o, e.keep h id⟩
mutual
theorem IsD.mono {n : Kn} {B B' : Bs} (e : B.le B') : ∀ (d : D) (v : V), IsD n B d v → IsD n B' d v
  | .non, _, h => h
  | .bl _, _, h => h
  | .int _, _, h => h
  | .str _, _, h => h
  | .tup ds, v, h => by
    obtain ⟨a, vs, h1, h2, h3⟩ := h
    exact ⟨a, vs, h1, sqT_mono e.h0 h2, IsDs.mono e ds vs h3⟩
  | .lst ds, v, h => by
    obtain ⟨a, vs, h1, h2, h3⟩ := h
    exact ⟨a, vs, h1, rd_mono e.h0 h2, IsDs.mono e ds vs h3⟩
  | .scr ns, v, h => by
    obtain ⟨a, h1, h2⟩ := h
    exact ⟨a, h1, sqL_mono e.h0 h2⟩
  | .dct ks ds, v, h => by
    obtain ⟨a, vs, h1, h2, h3, h4⟩ := h
    exact ⟨a, vs, h1, rd_mono e.h0 h2, h3, IsDs.mono e ds vs h4⟩
  | .dctT ks ds, v, h => by
    obtain ⟨a, vs, h1, h2, h3, h4⟩ := h
    exact ⟨a, vs, h1, rd_mono e.h0 h2, h3, IsDs.mono e ds vs h4⟩
  | .ins c fs ds, v, h => by
    obtain ⟨a, C, dx, vs, h1, h2, h3, h4, h5⟩ := h
    exact ⟨a, C, dx, vs, h1, h2, e.h0.keep h3 id, h4, IsDs.mono e ds vs h5⟩
  | .live k, v, h => by
    obtain ⟨a, h1, h2⟩ := h
    exact ⟨a, h1, e.lv _ _ h2⟩
  | .tupF ds, v, h => by
    obtain ⟨a, vs, o, h1, h2, h3, h4⟩ := h
    exact ⟨a, vs, o, h1, e.h0.keep h2 id, h3, IsDs.mono e ds vs h4⟩
theorem IsDs.mono {n : Kn} {B B' : Bs} (e : B.le B') : ∀ (ds : List D) (vs : List V), IsDs n B ds vs → IsDs n B' ds vs
  | [], _, h => h
  | d :: ds, vs, h => by
    obtain ⟨v, r, h1, h2, h3⟩ := h
    exact ⟨v, r, h1, IsD.mono e d v h2, IsDs.mono e ds r h3⟩
end
theorem IsDs.length {n : Kn} {B : Bs} : ∀ {ds : List D} {vs : List V}, IsDs n B ds vs → vs.length = ds.length
  | [], vs, h => by cases (show vs = [] from h); rfl
  | d :: ds, vs, h => by
    obtain ⟨v, r, rfl, _, h3⟩ := h
    simp [IsDs.length h3]
theorem IsDs.append {n : Kn} {B : Bs} : ∀ {ds es : List D} {vs ws : List V}, IsDs n B ds vs → IsDs n B es ws → IsDs n B (ds ++ es) (vs ++ ws)
  | [], es, vs, ws, h, h' => by cases (show vs = [] from h); exact h'
  | d :: ds, es, vs, ws, h, h' => by
    obtain ⟨v, r, rfl, h2, h3⟩ := h
    exact ⟨v, r ++ ws, rfl, h2, IsDs.append h3 h'⟩
theorem IsDs.get {n : Kn} {B : Bs} : ∀ {ds : List D} {vs : List V} {i : Nat} {d : D}, IsDs n B ds vs → ds[i]? = some d → ∃ v, vs[i]? = some v ∧ IsD n B d v
  | [], vs, i, d, _, e => by simp at e
  | d0 :: ds, vs, 0, d, h, e => by
    obtain ⟨v, r, rfl, h2, h3⟩ := h
    simp at e
    subst e
    exact ⟨v, rfl, h2⟩
  | d0 :: ds, vs, i + 1, d, h, e => by
    obtain ⟨v, r, rfl, h2, h3⟩ := h
    exact IsDs.get (i := i) h3 (by simpa using e)
theorem IsDs.set {n : Kn} {B : Bs} {d : D} {v : V} (hd : IsD n B d v) : ∀ {ds : List D} {vs : List V} (i : Nat), IsDs n B ds vs → IsDs n B (ds.set i d) (vs.set i v)
  | [], vs, i, h => by cases (show vs = [] from h); exact rfl
  | d0 :: ds, vs, 0, h => by
    obtain ⟨w, r, rfl, h2, h3⟩ := h
    exact ⟨v, r, rfl, hd, h3⟩
  | d0 :: ds, vs, i + 1, h => by
    obtain ⟨w, r, rfl, h2, h3⟩ := h
    exact ⟨w, r.set i v, rfl, h2, IsDs.set hd i h3⟩
theorem IsDs.take {n : Kn} {B : Bs} : ∀ {ds : List D} {vs : List V} (i : Nat), IsDs n B ds vs → IsDs n B (ds.take i) (vs.take i)
  | ds, vs, 0, h => by simp [IsDs]
  | [], vs, i + 1, h => by cases (show vs = [] from h); simp [IsDs]
  | d0 :: ds, vs, i + 1, h => by
    obtain ⟨w, r, rfl, h2, h3⟩ := h
    exact ⟨w, r.take i, rfl, h2, IsDs.take i h3⟩
theorem IsDs.drop {n : Kn} {B : Bs} : ∀ {ds : List D} {vs : List V} (i : Nat), IsDs n B ds vs → IsDs n B (ds.drop i) (vs.drop i)
  | ds, vs, 0, h => by simpa using h
  | [], vs, i + 1, h => by cases (show vs = [] from h); simp [IsDs]
  | d0 :: ds, vs, i + 1, h => by
    obtain ⟨w, r, rfl, h2, h3⟩ := h
    exact IsDs.drop i h3
theorem IsDs.reverse {n : Kn} {B : Bs} : ∀ {ds : List D} {vs : List V}, IsDs n B ds vs → IsDs n B ds.reverse vs.reverse
  | [], vs, h => by cases (show vs = [] from h); simp [IsDs]
  | d0 :: ds, vs, h => by
    obtain ⟨w, r, rfl, h2, h3⟩ := h
    rw [List.reverse_cons, List.reverse_cons]
    exact IsDs.append (IsDs.reverse h3) ⟨w, [], rfl, h2, rfl⟩
theorem IsDs.ints {n : Kn} {B : Bs} : ∀ {ns : List Int} {vs : List V}, IsDs n B (ns.map D.int) vs → vs = ns.map V.int
  | [], vs, h => h
  | i :: ns, vs, h => by
    obtain ⟨w, r, rfl, h2, h3⟩ := h
    rw [IsDs.ints h3, (show w = .int i from h2)]
    rfl
theorem IsDs.of_ints {n : Kn} {B : Bs} : ∀ {ns : List Int}, IsDs n B (ns.map D.int) (ns.map V.int)
  | [] => rfl
  | i :: ns => ⟨_, _, rfl, rfl, IsDs.of_ints⟩
/-! ### mutable things -/
inductive Fr where
  | l (ds : List D) | k (ks : List Key) (ds : List D) | t (ks : List (List Key)) (ds : List D)
  | o (c : Str) (fs : List Str) (ds : List D)
@[simp] def Fr.toD : Fr → D
  | .l ds => .lst ds
  | .k ks ds => .dct ks ds
  | .t ks ds => .dctT ks ds
  | .o c fs ds => .ins c fs ds
def FrOk (n : Kn) (B : Bs) (H : Hp) (a : Addr) : Fr → Prop
  | .l ds => ∃ vs, H a = some (.lst vs) ∧ IsDs n B ds vs
  | .k ks ds => ∃ vs, H a = some (.dK (ks.zip vs)) ∧ ks.length = ds.length ∧ IsDs n B ds vs
  | .t ks ds => ∃ vs, H a = some (.dT (ks.zip vs)) ∧ ks.length = ds.length ∧ IsDs n B ds vs
  | .o c fs ds => ∃ C dx vs, n.mg c = some (.ref C) ∧ H a = some (.ins C dx (fs.zip vs)) ∧ fs.length = ds.length ∧ IsDs n B ds vs
/-- neither a tuple nor a table nor a code object -/
def Own : HO → Prop
  | .lst _ => True
  | .dK _ => True
  | .dT _ => True
  | .ins .. => True
  | _ => False
theorem FrOk.mono {n : Kn} {B B' : Bs} {H H' : Hp} {a : Addr} {f : Fr} (e : B.le B') (eh : ∀ o, Own o → H a = some o → H' a = some o) (h : FrOk n B H a f) : FrOk n B' H' a f := by
  cases f with
  | l ds => obtain ⟨vs, h1, h2⟩ := h; exact ⟨vs, eh _ trivial h1, h2.mono e _ _⟩
  | k ks ds => obtain ⟨vs, h1, h2, h3⟩ := h; exact ⟨vs, eh _ trivial h1, h2, h3.mono e _ _⟩
  | t ks ds => obtain ⟨vs, h1, h2, h3⟩ := h; exact ⟨vs, eh _ trivial h1, h2, h3.mono e _ _⟩
  | o c fs ds => obtain ⟨C, dx, vs, h1, h2, h3, h4⟩ := h; exact ⟨C, dx, vs, h1, eh _ trivial h2, h3, h4.mono e _ _⟩
theorem FrOk.own {n : Kn} {B : Bs} {H : Hp} {a : Addr} {f : Fr} (h : FrOk n B H a f) : ∃ o, H a = some o ∧ Own o := by
  cases f with
  | l ds => obtain ⟨vs, h1, h2⟩ := h; exact ⟨_, h1, trivial⟩
  | k ks ds => obtain ⟨vs, h1, h2, h3⟩ := h; exact ⟨_, h1, trivial⟩
  | t ks ds => obtain ⟨vs, h1, h2, h3⟩ := h; exact ⟨_, h1, trivial⟩
  | o c fs ds => obtain ⟨C, dx, vs, h1, h2, h3, h4⟩ := h; exact ⟨_, h2, trivial⟩
theorem FrOk.there {n : Kn} {B : Bs} {H : Hp} {a : Addr} {f : Fr} (h : FrOk n B H a f) : ∃ o, H a = some o := by
  cases f with
  | l ds => obtain ⟨vs, h1, h2⟩ := h; exact ⟨_, h1⟩
  | k ks ds => obtain ⟨vs, h1, h2, h3⟩ := h; exact ⟨_, h1⟩
  | t ks ds => obtain ⟨vs, h1, h2, h3⟩ := h; exact ⟨_, h1⟩
  | o c fs ds => obtain ⟨C, dx, vs, h1, h2, h3, h4⟩ := h; exact ⟨_, h2⟩
/-- frozen, it is data -/
theorem FrOk.frozen {n : Kn} {B : Bs} {H : Hp} {a : Addr} {f : Fr} (h : FrOk n B H a f) (e : B.H0 a = H a) : IsD n B f.toD (.ref a) := by
  cases f with
  | l ds => obtain ⟨vs, h1, h2⟩ := h; exact ⟨a, vs, rfl, .inl (e.trans h1), h2⟩
  | k ks ds => obtain ⟨vs, h1, h2, h3⟩ := h; exact ⟨a, vs, rfl, .inl (e.trans h1), h2, h3⟩
  | t ks ds => obtain ⟨vs, h1, h2, h3⟩ := h; exact ⟨a, vs, rfl, .inl (e.trans h1), h2, h3⟩
  | o c fs ds => obtain ⟨C, dx, vs, h1, h2, h3, h4⟩ := h; exact ⟨a, C, dx, vs, rfl, h1, e.trans h2, h3, h4⟩
/-- a value as it stands in the heap at hand -/
def VD (n : Kn) (B : Bs) (H : Hp) : D → V → Prop
  | .lst ds, v => ∃ a vs, v = .ref a ∧ Rd H a (.lst vs) ∧ IsDs n B ds vs
  | .scr ns, v => ∃ a, v = .ref a ∧ SqL n.K B.H0 a (ns.map V.int)
  | .dct ks ds, v => ∃ a vs, v = .ref a ∧ Rd H a (.dK (ks.zip vs)) ∧ ks.length = ds.length ∧ IsDs n B ds vs
  | .dctT ks ds, v => ∃ a vs, v = .ref a ∧ Rd H a (.dT (ks.zip vs)) ∧ ks.length = ds.length ∧ IsDs n B ds vs
  | .ins c fs ds, v => ∃ a C dx vs, v = .ref a ∧ n.mg c = some (.ref C) ∧ H a = some (.ins C dx (fs.zip vs)) ∧ fs.length = ds.length ∧ IsDs n B ds vs
  | .tup ds, v => ∃ a vs, v = .ref a ∧ SqT n.K B.H0 a vs ∧ IsDs n B ds vs
  | .non, v => v = .non
  | .bl b, v => v = .bl b
  | .int i, v => v = .int i
  | .str s, v => v = .str s
  | .live k, v => ∃ a, v = .ref a ∧ B.A k = some a
  | .tupF ds, v => ∃ a vs o, v = .ref a ∧ B.H0 a = some (.frz o (.tup vs)) ∧ o.dict = none ∧ IsDs n B ds vs
theorem IsD.weak {n : Kn} {B : Bs} {ds : List D} {v : V} (h : IsD n B (.tupF ds) v) : IsD n B (.tup ds) v := by
  obtain ⟨a, vs, o, h1, h2, h3, h4⟩ := h
  exact ⟨a, vs, h1, .inl (.inr ⟨o, h2⟩), h4⟩
theorem IsD.view {n : Kn} {B : Bs} {H : Hp} (e : Up B.H0 H) {d : D} {v : V} (h : IsD n B d v) : VD n B H d v := by
  cases d with
  | lst ds => obtain ⟨a, vs, h1, h2, h3⟩ := h; exact ⟨a, vs, h1, rd_mono e h2, h3⟩
  | dct ks ds => obtain ⟨a, vs, h1, h2, h3, h4⟩ := h; exact ⟨a, vs, h1, rd_mono e h2, h3, h4⟩
  | dctT ks ds => obtain ⟨a, vs, h1, h2, h3, h4⟩ := h; exact ⟨a, vs, h1, rd_mono e h2, h3, h4⟩
  | ins c fs ds => obtain ⟨a, C, dx, vs, h1, h2, h3, h4, h5⟩ := h; exact ⟨a, C, dx, vs, h1, h2, e.keep h3 id, h4, h5⟩
  | _ => exact h
theorem FrOk.view {n : Kn} {B : Bs} {H : Hp} {a : Addr} {f : Fr} (h : FrOk n B H a f) : VD n B H f.toD (.ref a) := by
  cases f with
  | l ds => obtain ⟨vs, h1, h2⟩ := h; exact ⟨a, vs, rfl, .inl h1, h2⟩
  | k ks ds => obtain ⟨vs, h1, h2, h3⟩ := h; exact ⟨a, vs, rfl, .inl h1, h2, h3⟩
  | t ks ds => obtain ⟨vs, h1, h2, h3⟩ := h; exact ⟨a, vs, rfl, .inl h1, h2, h3⟩
  | o c fs ds => obtain ⟨C, dx, vs, h1, h2, h3, h4⟩ := h; exact ⟨a, C, dx, vs, rfl, h1, h2, h3, h4⟩
/-! ### the mirror's state -/
inductive SV where
  | d (x : D) | m (f : Fr)
abbrev G := List Fr
structure MS where
  sl : List (Option SV)
  g : G
def SVk (n : Kn) (B : Bs) (H : Hp) (oa : Option Addr) (v : V) : SV → Prop
  | .d x => IsD n B x v
  | .m f => ∃ a, oa = some a ∧ v = .ref a ∧ FrOk n B H a f
structure Ext (B : Bs) (H : Hp) (B' : Bs) (H' : Hp) : Prop where
  le : B.le B'
  n0 : ∀ a o, B'.H0 a = some o → (∃ o', B.H0 a = some o') ∨ H a = none ∨ ∃ xs, H a = some (.tup xs)
  nl : ∀ k a, B'.A k = some a → B.A k = some a ∨ H a = none
  fr : ∀ a o, H a = some o → Own o → B.H0 a = none → (∀ k, B.A k ≠ some a) → H' a = some o
  tr : ∀ a, H a ≠ none → H' a ≠ none
  tu : ∀ a xs, H' a = some (.tup xs) → H a = none ∨ H a = some (.tup xs)
theorem Ext.refl (B : Bs) (H : Hp) : Ext B H B H := ⟨.refl B, fun _ o h => .inl ⟨o, h⟩, fun _ _ h => .inl h, fun _ _ h _ _ _ => h, fun _ h => h, fun _ _ h => .inr h⟩
theorem Ext.none {B B' : Bs} {H H' : Hp} (e : Ext B H B' H') {a : Addr} (h : H' a = Option.none) : H a = Option.none := by
  cases q : H a with
  | none => rfl
  | some o => exact absurd h (e.tr a (by rw [q]; simp))
theorem Ext.trans {B B1 B2 : Bs} {H H1 H2 : Hp} (x : Ext B H B1 H1) (y : Ext B1 H1 B2 H2) : Ext B H B2 H2 where
  le := x.le.trans y.le
  n0 := fun a o h => by
    rcases y.n0 a o h with ⟨o', h⟩ | h | ⟨xs, h⟩
    · exact x.n0 a o' h
    · exact .inr (.inl (x.none h))
    · rcases x.tu a xs h with h | h
      · exact .inr (.inl h)
      · exact .inr (.inr ⟨xs, h⟩)
  nl := fun k a h => by
    rcases y.nl k a h with h | h
    · exact x.nl k a h
    · exact .inr (x.none h)
  fr := fun a o h w h0 hk => by
    refine y.fr a o (x.fr a o h w h0 hk) w ?_ fun k q => ?_
    · cases q : B1.H0 a with
      | none => rfl
      | some o' =>
        rcases x.n0 a o' q with ⟨z, hz⟩ | z | ⟨xs, z⟩
        · rw [h0] at hz; cases hz
        · rw [z] at h; cases h
        · rw [z] at h
          cases h
          exact w.elim
    · rcases x.nl k a q with z | z
      · exact hk k z
      · rw [z] at h; cases h
  tr := fun a h => y.tr a (x.tr a h)
  tu := fun a xs h => by
    rcases y.tu a xs h with h | h
    · exact .inl (x.none h)
    · exact x.tu a xs h
structure RelL (n : Kn) (B : Bs) (H : Hp) (g : G) : Prop where
  tb : LamX.Tabs n.T H
  sub : ∀ a o, B.H0 a = some o → H a = some o
  inj : ∀ k l a, B.A k = some a → B.A l = some a → k = l
  dom : ∀ k a, B.A k = some a → k < g.length
  ob : ∀ k f, g[k]? = some f → ∃ a, B.A k = some a ∧ B.H0 a = none ∧ FrOk n B H a f
/-- what is fixed while a def's body runs -/
structure Cn where
  n : Kn
  nn : Nat
  Bst : Bs
  Hst : Hp
structure Free (c : Cn) (B : Bs) (H : Hp) (a : Addr) : Prop where
  h0 : B.H0 a = none
  nl : ∀ k, B.A k ≠ some a
  hs : c.Hst a = none
  ow : ∃ o, H a = some o ∧ Own o
theorem Free.th {c : Cn} {B : Bs} {H : Hp} {a : Addr} (f : Free c B H a) : H a ≠ none := by
  obtain ⟨o, h, _⟩ := f.ow
  rw [h]
  simp
theorem RelL.up {n : Kn} {B : Bs} {H : Hp} {g : G} (r : RelL n B H g) : Up B.H0 H := Up.of r.sub
/-- tables stay where an own thing is written -/
theorem tabs_own {T : List (Addr × Str)} {H : Hp} {a : Addr} {o o' : HO} (t : LamX.Tabs T H) (h : H a = some o) (w : Own o) : LamX.Tabs T (upd H a o') := fun p hp => by
  obtain ⟨ps, h1, h2, h3⟩ := t p hp
  refine ⟨ps, ?_, h2, fun pos cv hc => ?_⟩
  · rw [upd_ne]
    · exact h1
    · intro z
      rw [z, h] at h1
      cases h1
      exact w
  · obtain ⟨c, e1, e2⟩ := h3 pos cv hc
    refine ⟨c, e1, ?_⟩
    rw [upd_ne]
    · exact e2
    · intro z
      rw [z, h] at e2
      cases e2
      exact w
structure Rel (c : Cn) (B : Bs) (σ : Sg) (H : Hp) (st : MS) (fs : List (Addr × Fr)) : Prop where
  ext : Ext c.Bst c.Hst B H
  lv : RelL c.n B H st.g
  len : σ.length = c.nn
  sl : ∃ (ad : Nat → Option Addr) (τ : Sg), (∀ i j a, ad i = some a → ad j = some a → i = j) ∧ (∀ i a, ad i = some a → Free c B H a ∧ ∀ p ∈ fs, p.1 ≠ a) ∧
    (∀ i sv, st.sl[i]? = some (some sv) → ∃ v, (σ ++ τ)[i]? = some (some v) ∧ SVk c.n B H (ad i) v sv)
  fr : ∀ p ∈ fs, Free c B H p.1 ∧ FrOk c.n B H p.1 p.2
  fnd : (fs.map (·.1)).Nodup
theorem Rel.sub {c : Cn} {B : Bs} {σ : Sg} {H : Hp} {st : MS} {fs fs' : List (Addr × Fr)} (r : Rel c B σ H st fs) (h : List.Sublist fs' fs) : Rel c B σ H st fs' := by
  obtain ⟨ad, τ, h1, h2, h3⟩ := r.sl
  exact ⟨r.ext, r.lv, r.len, ⟨ad, τ, h1, fun i a h' => ⟨(h2 i a h').1, fun p hp => (h2 i a h').2 p (h.subset hp)⟩, h3⟩, fun p hp => r.fr p (h.subset hp), r.fnd.sublist (h.map _)⟩
theorem Rel.drop {c : Cn} {B : Bs} {σ : Sg} {H : Hp} {st : MS} {fs : List (Addr × Fr)} (r : Rel c B σ H st fs) : Rel c B σ H st [] := r.sub (List.nil_sublist _)
/-- a fresh thing is frozen -/
theorem Rel.freeze {c : Cn} {B : Bs} {σ : Sg} {H : Hp} {st : MS} {a : Addr} {f : Fr} {fs : List (Addr × Fr)} (r : Rel c B σ H st ((a, f) :: fs)) :
    ∃ B', B.le B' ∧ Rel c B' σ H st fs ∧ IsD c.n B' f.toD (.ref a) := by
  obtain ⟨fa, hf⟩ := r.fr (a, f) List.mem_cons_self
  obtain ⟨o, ho⟩ := hf.there
  have le : B.le ⟨upd B.H0 a o, B.A⟩ := ⟨Up.of fun b u h => by
    show upd B.H0 a o b = some u
    rw [upd_ne (ne_of_none h fa.h0)]
    exact h, fun _ _ h => h⟩
  have nd : a ∉ fs.map (·.1) ∧ (fs.map (·.1)).Nodup := List.nodup_cons.mp r.fnd
  have nfree : ∀ b, b ≠ a → Free c B H b → Free c ⟨upd B.H0 a o, B.A⟩ H b := fun b hb f1 => ⟨by
    show upd B.H0 a o b = none
    rw [upd_ne hb]
    exact f1.h0, f1.nl, f1.hs, f1.ow⟩
  refine ⟨⟨upd B.H0 a o, B.A⟩, le, ⟨⟨r.ext.le.trans le, fun b u h => ?_, r.ext.nl, r.ext.fr, r.ext.tr, r.ext.tu⟩, ⟨r.lv.tb, fun b u h => ?_, r.lv.inj, r.lv.dom, fun k f' h => ?_⟩, r.len, ?_, fun p hp => ?_, nd.2⟩, ?_⟩
  · by_cases hb : b = a
    · exact .inr (.inl (by rw [hb]; exact fa.hs))
    · have h' : upd B.H0 a o b = some u := h
      rw [upd_ne hb] at h'
      exact r.ext.n0 b u h'
  · have h' : upd B.H0 a o b = some u := h
    by_cases hb : b = a
    · subst hb
      rw [upd_same] at h'
      rw [ho]
      exact h'
    · rw [upd_ne hb] at h'
      exact r.lv.sub b u h'
  · obtain ⟨b, h1, h2, h3⟩ := r.lv.ob k f' h
    have hb : b ≠ a := fun e => fa.nl k (by rw [← e]; exact h1)
    refine ⟨b, h1, ?_, h3.mono le fun _ _ h => h⟩
    show upd B.H0 a o b = none
    rw [upd_ne hb]
    exact h2
  · obtain ⟨ad, τ, h1, h2, h3⟩ := r.sl
    refine ⟨ad, τ, h1, fun i b h => ?_, fun i sv h => ?_⟩
    · obtain ⟨f1, f2⟩ := h2 i b h
      have hb : b ≠ a := fun e => f2 _ List.mem_cons_self e.symm
      exact ⟨nfree b hb f1, fun p hp => f2 p (List.mem_cons_of_mem _ hp)⟩
    · obtain ⟨v, e, k⟩ := h3 i sv h
      refine ⟨v, e, ?_⟩
      cases sv with
      | d x => exact IsD.mono le x v k
      | m f' =>
        obtain ⟨b, e1, e2, e3⟩ := k
        exact ⟨b, e1, e2, e3.mono le fun _ _ h => h⟩
  · obtain ⟨g1, g2⟩ := r.fr p (List.mem_cons_of_mem _ hp)
    have hb : p.1 ≠ a := fun e => nd.1 (by rw [← e]; exact List.mem_map_of_mem hp)
    exact ⟨nfree _ hb g1, g2.mono le fun _ _ h => h⟩
  · refine FrOk.frozen (H := H) (hf.mono le fun _ _ h => h) ?_
    show upd B.H0 a o a = H a
    rw [upd_same, ho]
/-- a slot's own thing becomes a fresh one -/
theorem Rel.free {c : Cn} {B : Bs} {σ : Sg} {H : Hp} {st : MS} {i : Nat} {f : Fr} {v : V} {fs : List (Addr × Fr)} (r : Rel c B σ H st fs) (hi : st.sl[i]? = some (some (.m f))) (hv : σ[i]? = some (some v)) :
    ∃ a, v = .ref a ∧ Rel c B σ H { st with sl := st.sl.set i none } ((a, f) :: fs) := by
  obtain ⟨ad, τ, h1, h2, h3⟩ := r.sl
  obtain ⟨v', e, a, ea, ev, hf⟩ := h3 i _ hi
  have hil : i < σ.length := (List.getElem?_eq_some_iff.mp hv).1
  have ev' : v' = v := by
    rw [List.getElem?_append_left hil, hv] at e
    simpa using e.symm
  subst ev'
  subst ev
  obtain ⟨fa, hfs⟩ := h2 i a ea
  refine ⟨a, rfl, r.ext, r.lv, r.len, ⟨fun j => if j = i then none else ad j, τ, fun j k b hj hk => ?_, fun j b hj => ?_, fun j sv hj => ?_⟩, fun p hp => ?_, List.nodup_cons.mpr ⟨fun z => ?_, r.fnd⟩⟩
  · by_cases e1 : j = i
    · simp [e1] at hj
    · by_cases e2 : k = i
      · simp [e2] at hk
      · simp [e1] at hj
        simp [e2] at hk
        exact h1 j k b hj hk
  · by_cases e1 : j = i
    · simp [e1] at hj
    · simp [e1] at hj
      refine ⟨(h2 j b hj).1, fun p hp => ?_⟩
      rcases List.mem_cons.mp hp with rfl | hp
      · exact fun e2 => e1 (h1 j i b hj (by rw [← e2]; exact ea))
      · exact (h2 j b hj).2 p hp
  · by_cases e1 : j = i
    · subst e1
      have hj' : (st.sl.set j none)[j]? = some (some sv) := hj
      rw [List.getElem?_set_self (List.getElem?_eq_some_iff.mp hi).1] at hj'
      cases hj'
    · have hj' : (st.sl.set i none)[j]? = some (some sv) := hj
      rw [List.getElem?_set_ne (Ne.symm e1)] at hj'
      obtain ⟨w, e2, k⟩ := h3 j sv hj'
      refine ⟨w, e2, ?_⟩
      simp only [e1, if_false]
      exact k
  · rcases List.mem_cons.mp hp with rfl | hp
    · exact ⟨fa, hf⟩
    · exact r.fr p hp
  · obtain ⟨p, hp, e2⟩ := List.mem_map.mp z
    exact hfs p hp e2
/-- data is known of a slot -/
theorem Rel.know {c : Cn} {B : Bs} {σ : Sg} {H : Hp} {st : MS} {i : Nat} {x : D} {v : V} {fs : List (Addr × Fr)} (r : Rel c B σ H st fs) (hi : st.sl[i]? = some none) (hv : σ[i]? = some (some v)) (hd : IsD c.n B x v) :
    Rel c B σ H { st with sl := st.sl.set i (some (.d x)) } fs := by
  obtain ⟨ad, τ, g1, g2, g3⟩ := r.sl
  have hil : i < σ.length := (List.getElem?_eq_some_iff.mp hv).1
  refine ⟨r.ext, r.lv, r.len, ⟨ad, τ, g1, g2, fun j sv hj => ?_⟩, r.fr, r.fnd⟩
  by_cases e1 : j = i
  · subst e1
    have hj' : (st.sl.set j (some (SV.d x)))[j]? = some (some sv) := hj
    rw [List.getElem?_set_self (List.getElem?_eq_some_iff.mp hi).1] at hj'
    cases hj'
    refine ⟨v, ?_, hd⟩
    rw [List.getElem?_append_left hil]
    exact hv
  · have hj' : (st.sl.set i (some (SV.d x)))[j]? = some (some sv) := hj
    rw [List.getElem?_set_ne (Ne.symm e1)] at hj'
    exact g3 j sv hj'
/-- a slot's own thing is frozen -/
theorem Rel.freezeSlot {c : Cn} {B : Bs} {σ : Sg} {H : Hp} {st : MS} {i : Nat} {f : Fr} {v : V} {fs : List (Addr × Fr)} (r : Rel c B σ H st fs) (hi : st.sl[i]? = some (some (.m f))) (hv : σ[i]? = some (some v)) :
    ∃ B', B.le B' ∧ Rel c B' σ H { st with sl := st.sl.set i (some (.d f.toD)) } fs ∧ IsD c.n B' f.toD v := by
  obtain ⟨a, rfl, q⟩ := r.free hi hv
  obtain ⟨B', le, r', hd⟩ := q.freeze
  have hl : i < st.sl.length := (List.getElem?_eq_some_iff.mp hi).1
  have q2 := r'.know (i := i) (x := f.toD) (by show (st.sl.set i none)[i]? = _; rw [List.getElem?_set_self hl]) hv hd
  have e : (st.sl.set i none).set i (some (SV.d f.toD)) = st.sl.set i (some (SV.d f.toD)) := List.set_set ..
  refine ⟨B', le, ?_, hd⟩
  have e3 : ({ sl := (st.sl.set i none).set i (some (SV.d f.toD)), g := st.g } : MS) = { st with sl := st.sl.set i (some (SV.d f.toD)) } := by rw [e]
  rw [← e3]
  exact q2
/-- data is stored in a slot -/
theorem Rel.store {c : Cn} {B : Bs} {σ : Sg} {H : Hp} {st : MS} {fs : List (Addr × Fr)} {i : Nat} {x : D} {v : V} (r : Rel c B σ H st fs) (hi : i < σ.length) (hd : IsD c.n B x v) :
    Rel c B (σ.set i (some v)) H { st with sl := st.sl.set i (some (.d x)) } fs := by
  obtain ⟨ad, τ, h1, h2, h3⟩ := r.sl
  refine ⟨r.ext, r.lv, by rw [List.length_set]; exact r.len, ⟨fun j => if j = i then none else ad j, τ, fun j k b hj hk => ?_, fun j b hj => ?_, fun j sv hj => ?_⟩, r.fr, r.fnd⟩
  · by_cases e1 : j = i
    · simp [e1] at hj
    · by_cases e2 : k = i
      · simp [e2] at hk
      · simp [e1] at hj
        simp [e2] at hk
        exact h1 j k b hj hk
  · by_cases e1 : j = i
    · simp [e1] at hj
    · simp [e1] at hj
      exact h2 j b hj
  · have hj' : (st.sl.set i (some (SV.d x)))[j]? = some (some sv) := hj
    by_cases e1 : j = i
    · subst e1
      have hl : j < (st.sl.set j (some (SV.d x))).length := (List.getElem?_eq_some_iff.mp hj').1
      rw [List.length_set] at hl
      rw [List.getElem?_set_self hl] at hj'
      cases hj'
      refine ⟨v, ?_, hd⟩
      rw [List.getElem?_append_left (by rw [List.length_set]; exact hi), List.getElem?_set_self hi]
    · rw [List.getElem?_set_ne (Ne.symm e1)] at hj'
      obtain ⟨w, e2, k⟩ := h3 j sv hj'
      refine ⟨w, ?_, by simp only [e1, if_false]; exact k⟩
      rw [← List.set_append_left _ _ hi, List.getElem?_set_ne (Ne.symm e1)]
      exact e2
/-- a fresh thing is stored in a slot -/
theorem Rel.storeF {c : Cn} {B : Bs} {σ : Sg} {H : Hp} {st : MS} {i : Nat} {a : Addr} {f : Fr} {fs : List (Addr × Fr)} (r : Rel c B σ H st ((a, f) :: fs)) (hi : i < σ.length) :
    Rel c B (σ.set i (some (.ref a))) H { st with sl := st.sl.set i (some (.m f)) } fs := by
  obtain ⟨ad, τ, h1, h2, h3⟩ := r.sl
  obtain ⟨fa, hf⟩ := r.fr (a, f) List.mem_cons_self
  have nd : a ∉ fs.map (·.1) ∧ (fs.map (·.1)).Nodup := List.nodup_cons.mp r.fnd
  refine ⟨r.ext, r.lv, by rw [List.length_set]; exact r.len, ⟨fun j => if j = i then some a else ad j, τ, fun j k b hj hk => ?_, fun j b hj => ?_, fun j sv hj => ?_⟩, fun p hp => r.fr p (List.mem_cons_of_mem _ hp), nd.2⟩
  · by_cases e1 : j = i
    · by_cases e2 : k = i
      · rw [e1, e2]
      · simp [e1] at hj
        simp [e2] at hk
        subst hj
        exact absurd rfl ((h2 k _ hk).2 _ List.mem_cons_self)
    · by_cases e2 : k = i
      · simp [e1] at hj
        simp [e2] at hk
        subst hk
        exact absurd rfl ((h2 j _ hj).2 _ List.mem_cons_self)
      · simp [e1] at hj
        simp [e2] at hk
        exact h1 j k b hj hk
  · by_cases e1 : j = i
    · simp [e1] at hj
      subst hj
      exact ⟨fa, fun p hp e2 => nd.1 (by rw [← e2]; exact List.mem_map_of_mem hp)⟩
    · simp [e1] at hj
      exact ⟨(h2 j b hj).1, fun p hp => (h2 j b hj).2 p (List.mem_cons_of_mem _ hp)⟩
  · have hj' : (st.sl.set i (some (SV.m f)))[j]? = some (some sv) := hj
    by_cases e1 : j = i
    · subst e1
      have hl : j < (st.sl.set j (some (SV.m f))).length := (List.getElem?_eq_some_iff.mp hj').1
      rw [List.length_set] at hl
      rw [List.getElem?_set_self hl] at hj'
      cases hj'
      refine ⟨.ref a, ?_, a, by simp, rfl, hf⟩
      rw [List.getElem?_append_left (by rw [List.length_set]; exact hi), List.getElem?_set_self hi]
    · rw [List.getElem?_set_ne (Ne.symm e1)] at hj'
      obtain ⟨w, e2, k⟩ := h3 j sv hj'
      refine ⟨w, ?_, by simp only [e1, if_false]; exact k⟩
      rw [← List.set_append_left _ _ hi, List.getElem?_set_ne (Ne.symm e1)]
      exact e2
/-- slots forgotten -/
@[simp] def wipeS (sl : List (Option SV)) : List Nat → List (Option SV)
  | [] => sl
  | i :: r => (wipeS sl r).set i none
theorem wipeS_some {sl : List (Option SV)} {j : Nat} {sv : SV} : ∀ {l : List Nat}, (wipeS sl l)[j]? = some (some sv) → sl[j]? = some (some sv) ∧ j ∉ l
  | [], h => ⟨h, by simp⟩
  | i :: r, h => by
    have h' : ((wipeS sl r).set i none)[j]? = some (some sv) := h
    by_cases e : j = i
    · subst e
      have hl : j < ((wipeS sl r).set j none).length := (List.getElem?_eq_some_iff.mp h').1
      rw [List.length_set] at hl
      rw [List.getElem?_set_self hl] at h'
      cases h'
    · rw [List.getElem?_set_ne (Ne.symm e)] at h'
      obtain ⟨h1, h2⟩ := wipeS_some h'
      exact ⟨h1, by simp [e, h2]⟩
theorem Rel.wiped {c : Cn} {B : Bs} {σ : Sg} {H : Hp} {st : MS} {fs : List (Addr × Fr)} (l : List Nat) (r : Rel c B σ H st fs) : Rel c B σ H { st with sl := wipeS st.sl l } fs := by
  obtain ⟨ad, τ, h1, h2, h3⟩ := r.sl
  exact ⟨r.ext, r.lv, r.len, ⟨ad, τ, h1, h2, fun i sv h => h3 i sv (wipeS_some h).1⟩, r.fr, r.fnd⟩
theorem Rel.nfree {c : Cn} {B B' : Bs} {σ : Sg} {H H' : Hp} {st : MS} {fs : List (Addr × Fr)} {a : Addr} (_ : Rel c B σ H st fs) (x : Ext B H B' H') (f : Free c B H a) : Free c B' H' a ∧ ∀ o, Own o → H a = some o → H' a = some o := by
    obtain ⟨o, ho, w⟩ := f.ow
    refine ⟨⟨?_, fun k q => ?_, f.hs, ⟨o, x.fr a o ho w f.h0 f.nl, w⟩⟩, fun o w q => x.fr a o q w f.h0 f.nl⟩
    · cases q : B'.H0 a with
      | none => rfl
      | some o =>
        rcases x.n0 a o q with ⟨z, hz⟩ | z | ⟨xs, z⟩
        · rw [f.h0] at hz; cases hz
        · exact absurd z f.th
        · rw [ho] at z
          cases z
          exact w.elim
    · rcases x.nl k a q with z | z
      · exact f.nl k z
      · exact f.th z
/-- the heap goes on: what is tracked and not live stands, live things as told -/
theorem Rel.go {c : Cn} {B B' : Bs} {σ : Sg} {H H' : Hp} {st : MS} {g' : G} {fs : List (Addr × Fr)} (r : Rel c B σ H st fs) (x : Ext B H B' H') (l : RelL c.n B' H' g') : Rel c B' σ H' { st with g := g' } fs := by
  have nfree : ∀ a, Free c B H a → Free c B' H' a ∧ ∀ o, Own o → H a = some o → H' a = some o := fun a f => r.nfree x f
  obtain ⟨ad, τ, h1, h2, h3⟩ := r.sl
  refine ⟨r.ext.trans x, l, r.len, ⟨ad, τ, h1, fun i a h => ⟨(nfree a (h2 i a h).1).1, (h2 i a h).2⟩, fun i sv h => ?_⟩, fun p hp => ?_, r.fnd⟩
  · obtain ⟨v, e, k⟩ := h3 i sv h
    refine ⟨v, e, ?_⟩
    cases sv with
    | d y => exact IsD.mono x.le y v k
    | m f' =>
      obtain ⟨b, e1, e2, e3⟩ := k
      exact ⟨b, e1, e2, e3.mono x.le (nfree b (h2 i b e1).1).2⟩
  · obtain ⟨g1, g2⟩ := r.fr p hp
    exact ⟨(nfree _ g1).1, g2.mono x.le (nfree _ g1).2⟩
theorem RelL.free {n : Kn} {B : Bs} {H : Hp} {g : G} (r : RelL n B H g) {p : Addr} (hp : H p = none) : B.H0 p = none ∧ ∀ k, B.A k ≠ some p := by
  constructor
  · cases q : B.H0 p with
    | none => rfl
    | some u => rw [r.sub p u q] at hp; cases hp
  · intro k q
    have hk := r.dom k p q
    obtain ⟨a, h1, _, h3⟩ := r.ob k _ (List.getElem?_eq_getElem hk)
    rw [q] at h1
    obtain ⟨u, hu⟩ := h3.there
    rw [← Option.some.inj h1, hp] at hu
    cases hu
/-- a new object, untracked so far -/
theorem Rel.newF {c : Cn} {B : Bs} {σ : Sg} {H : Hp} {st : MS} {p : Addr} {o : HO} {f : Fr} {fs : List (Addr × Fr)} (r : Rel c B σ H st fs) (hp : H p = none) (hf : FrOk c.n B (upd H p o) p f) : Rel c B σ (upd H p o) st ((p, f) :: fs) := by
  have keep : ∀ b u, H b = some u → upd H p o b = some u := fun b u h => by rw [upd_ne (ne_of_none h hp)]; exact h
  have ne : ∀ b, H b ≠ none → b ≠ p := fun b h e => h (by rw [e]; exact hp)
  obtain ⟨b0, bl⟩ := r.lv.free hp
  have tup : ∀ b xs, upd H p o b = some (.tup xs) → H b = none ∨ H b = some (.tup xs) := fun b xs h => by
    by_cases hb : b = p
    · exact .inl (by rw [hb]; exact hp)
    · rw [upd_ne hb] at h
      exact .inr h
  have x : Ext B H B (upd H p o) := ⟨.refl B, fun _ o h => .inl ⟨o, h⟩, fun _ _ h => .inl h, fun a u h _ _ _ => keep a u h, fun a h => by rw [upd_ne (ne a h)]; exact h, tup⟩
  have q := r.go (g' := st.g) x ⟨r.lv.tb.ext keep, fun a u h => keep a u (r.lv.sub a u h), r.lv.inj, r.lv.dom, fun k f' h => by
    obtain ⟨a, g1, g2, g3⟩ := r.lv.ob k f' h
    exact ⟨a, g1, g2, g3.mono (.refl B) fun u _ hu => keep a u hu⟩⟩
  have fp : Free c B (upd H p o) p := ⟨b0, bl, r.ext.none hp, hf.own⟩
  obtain ⟨ad, τ, h1, h2, h3⟩ := r.sl
  obtain ⟨ad', τ', h1', h2', h3'⟩ := q.sl
  refine ⟨q.ext, q.lv, q.len, ⟨ad, τ, h1, fun i a h => ?_, fun i sv h => ?_⟩, fun z hz => ?_, List.nodup_cons.mpr ⟨fun z => ?_, r.fnd⟩⟩
  · obtain ⟨f1, f2⟩ := h2 i a h
    refine ⟨⟨f1.h0, f1.nl, f1.hs, by rw [upd_ne (ne a f1.th)]; exact f1.ow⟩, fun z hz => ?_⟩
    rcases List.mem_cons.mp hz with rfl | hz
    · exact fun e => ne a f1.th e.symm
    · exact f2 z hz
  · obtain ⟨v, e, k⟩ := h3 i sv h
    refine ⟨v, e, ?_⟩
    cases sv with
    | d y => exact k
    | m f' =>
      obtain ⟨b, e1, e2, e3⟩ := k
      exact ⟨b, e1, e2, e3.mono (.refl B) fun u _ hu => keep b u hu⟩
  · rcases List.mem_cons.mp hz with rfl | hz
    · exact ⟨fp, hf⟩
    · exact q.fr z hz
  · obtain ⟨y, hy, e⟩ := List.mem_map.mp z
    exact ne y.1 (r.fr y hy).1.th e
/-- a new object that never changes -/
theorem Rel.newD {c : Cn} {B : Bs} {σ : Sg} {H : Hp} {st : MS} {p : Addr} {o : HO} {fs : List (Addr × Fr)} (r : Rel c B σ H st fs) (hp : H p = none) :
    B.le ⟨upd B.H0 p o, B.A⟩ ∧ Rel c ⟨upd B.H0 p o, B.A⟩ σ (upd H p o) st fs := by
  have keep : ∀ b u, H b = some u → upd H p o b = some u := fun b u h => by rw [upd_ne (ne_of_none h hp)]; exact h
  have ne : ∀ b, H b ≠ none → b ≠ p := fun b h e => h (by rw [e]; exact hp)
  obtain ⟨b0, bl⟩ := r.lv.free hp
  have tup : ∀ b xs, upd H p o b = some (.tup xs) → H b = none ∨ H b = some (.tup xs) := fun b xs h => by
    by_cases hb : b = p
    · exact .inl (by rw [hb]; exact hp)
    · rw [upd_ne hb] at h
      exact .inr h
  have le : B.le ⟨upd B.H0 p o, B.A⟩ := ⟨Up.of fun b u h => by
    show upd B.H0 p o b = some u
    rw [upd_ne (ne_of_none h b0)]
    exact h, fun _ _ h => h⟩
  have x : Ext B H ⟨upd B.H0 p o, B.A⟩ (upd H p o) := ⟨le, fun b u h => by
    have h' : upd B.H0 p o b = some u := h
    by_cases hb : b = p
    · exact .inr (.inl (by rw [hb]; exact hp))
    · rw [upd_ne hb] at h'
      exact .inl ⟨u, h'⟩, fun _ _ h => .inl h, fun a u h _ _ _ => keep a u h, fun a h => by rw [upd_ne (ne a h)]; exact h, tup⟩
  refine ⟨le, r.go (g' := st.g) x ⟨r.lv.tb.ext keep, fun b u h => ?_, r.lv.inj, r.lv.dom, fun k f' h => ?_⟩⟩
  · have h' : upd B.H0 p o b = some u := h
    by_cases hb : b = p
    · subst hb
      rw [upd_same] at h' ⊢
      exact h'
    · rw [upd_ne hb] at h' ⊢
      exact r.lv.sub b u h'
  · obtain ⟨b, h1, h2, h3⟩ := r.lv.ob k f' h
    have hb : b ≠ p := fun e => bl k (by rw [← e]; exact h1)
    refine ⟨b, h1, ?_, h3.mono le fun u _ hu => keep b u hu⟩
    show upd B.H0 p o b = none
    rw [upd_ne hb]
    exact h2
/-- a dict that never changes is locked -/
theorem Rel.lock {c : Cn} {B : Bs} {σ : Sg} {H : Hp} {st : MS} {d : Addr} {u : HO} {od : Obj} {fs : List (Addr × Fr)} (r : Rel c B σ H st fs) (h0 : B.H0 d = some u) (lk : Lk u) (hw : Own u) :
    B.le ⟨upd B.H0 d (.frz od u), B.A⟩ ∧ Rel c ⟨upd B.H0 d (.frz od u), B.A⟩ σ (upd H d (.frz od u)) st fs := by
  have hd : H d = some u := r.lv.sub d u h0
  have le : B.le ⟨upd B.H0 d (.frz od u), B.A⟩ := ⟨fun b v h => by
    show upd B.H0 d (.frz od u) b = some v ∨ _
    by_cases hb : b = d
    · rw [hb, h0] at h
      cases h
      exact .inr ⟨lk, od, by rw [hb]; exact upd_same⟩
    · rw [upd_ne hb]
      exact .inl h, fun _ _ h => h⟩
  have keep : ∀ b v, b ≠ d → H b = some v → upd H d (.frz od u) b = some v := fun b v hb h => by rw [upd_ne hb]; exact h
  have x : Ext B H ⟨upd B.H0 d (.frz od u), B.A⟩ (upd H d (.frz od u)) := ⟨le, fun b v h => by
    have h' : upd B.H0 d (.frz od u) b = some v := h
    by_cases hb : b = d
    · exact .inl ⟨u, by rw [hb]; exact h0⟩
    · rw [upd_ne hb] at h'
      exact .inl ⟨v, h'⟩, fun _ _ h => .inl h, fun a v h w z _ => keep a v (fun e => by rw [e, h0] at z; cases z) h, fun a h => by
    by_cases hb : a = d
    · rw [hb, upd_same]; simp
    · rw [upd_ne hb]; exact h, fun b xs h => by
    by_cases hb : b = d
    · rw [hb, upd_same] at h; cases h
    · rw [upd_ne hb] at h; exact .inr h⟩
  refine ⟨le, r.go (g' := st.g) x ⟨tabs_own r.lv.tb hd hw, fun b v h => ?_, r.lv.inj, r.lv.dom, fun k f' h => ?_⟩⟩
  · have h' : upd B.H0 d (.frz od u) b = some v := h
    by_cases hb : b = d
    · rw [hb, upd_same] at h' ⊢
      exact h'
    · rw [upd_ne hb] at h' ⊢
      exact r.lv.sub b v h'
  · obtain ⟨b, h1, h2, h3⟩ := r.lv.ob k f' h
    have hb : b ≠ d := fun e => by rw [e, h0] at h2; cases h2
    refine ⟨b, h1, ?_, h3.mono le fun v _ hv => keep b v hb hv⟩
    show upd B.H0 d (.frz od u) b = none
    rw [upd_ne hb]
    exact h2
/-- a tuple that stands is known -/
theorem Rel.learn {c : Cn} {B : Bs} {σ : Sg} {H : Hp} {st : MS} {q : Addr} {xs : List V} {fs : List (Addr × Fr)} (r : Rel c B σ H st fs) (hq : H q = some (.tup xs)) :
    B.le ⟨upd B.H0 q (.tup xs), B.A⟩ ∧ Rel c ⟨upd B.H0 q (.tup xs), B.A⟩ σ H st fs := by
  have le : B.le ⟨upd B.H0 q (.tup xs), B.A⟩ := ⟨Up.of fun b v h => by
    show upd B.H0 q (.tup xs) b = some v
    by_cases hb : b = q
    · have := r.lv.sub b v h
      rw [hb, hq] at this
      rw [hb, upd_same, ← this]
    · rw [upd_ne hb]
      exact h, fun _ _ h => h⟩
  have x : Ext B H ⟨upd B.H0 q (.tup xs), B.A⟩ H := ⟨le, fun b v h => by
    have h' : upd B.H0 q (.tup xs) b = some v := h
    by_cases hb : b = q
    · exact .inr (.inr ⟨xs, by rw [hb]; exact hq⟩)
    · rw [upd_ne hb] at h'
      exact .inl ⟨v, h'⟩, fun _ _ h => .inl h, fun _ _ h _ _ _ => h, fun _ h => h, fun _ _ h => .inr h⟩
  refine ⟨le, r.go (g' := st.g) x ⟨r.lv.tb, fun b v h => ?_, r.lv.inj, r.lv.dom, fun k f' h => ?_⟩⟩
  · have h' : upd B.H0 q (.tup xs) b = some v := h
    by_cases hb : b = q
    · rw [hb, upd_same] at h'
      rw [hb, hq]
      exact h'
    · rw [upd_ne hb] at h'
      exact r.lv.sub b v h'
  · obtain ⟨b, h1, h2, h3⟩ := r.lv.ob k f' h
    have hb : b ≠ q := fun e => by
      obtain ⟨o, ho, w⟩ := h3.own
      rw [e, hq] at ho
      cases ho
      exact w
    refine ⟨b, h1, ?_, h3.mono le fun v _ hv => hv⟩
    show upd B.H0 q (.tup xs) b = none
    rw [upd_ne hb]
    exact h2
end Y
namespace Y
open PySem PySem.Spec PyProof.Rows L2
inductive Rs (α : Type) where
  | ok (a : α) (st : MS) | ex (c : Str) (as : List D) (st : MS) | bad
inductive E1 where
  | d (x : D) | s (i : Nat)
inductive EX where
  | e (x : E1) | f (fr : Fr)
abbrev Mo (α : Type) := MS → Rs α
@[simp ↓] def Rs.then {α β : Type} (r : Rs α) (f : α → MS → Rs β) : Rs β := match r with
  | .ok a st => f a st
  | .ex c as st => .ex c as st
  | .bad => .bad
@[simp] theorem then_ok {α β : Type} (a : α) (st : MS) (f : α → MS → Rs β) : (Rs.ok a st).then f = f a st := rfl
@[simp] theorem then_ex {α β : Type} (c : Str) (as : List D) (st : MS) (f : α → MS → Rs β) : (Rs.ex c as st : Rs α).then f = .ex c as st := rfl
@[simp] theorem then_bad {α β : Type} (f : α → MS → Rs β) : (Rs.bad : Rs α).then f = .bad := rfl
@[simp ↓] def opt {α : Type} (o : Option α) (st : MS) : Rs α := match o with
  | some a => .ok a st
  | none => .bad
@[simp] theorem opt_some {α : Type} (a : α) (st : MS) : opt (some a) st = .ok a st := rfl
@[simp] theorem opt_none {α : Type} (st : MS) : (opt none st : Rs α) = .bad := rfl
/-- a value as it stands now -/
@[simp] def val : E1 → MS → Option D
  | .d x, st => match x with
    | .live k => (st.g[k]?).map Fr.toD
    | .tupF ds => some (.tup ds)
    | x => some x
  | .s i, st => match st.sl[i]? with
    | some (some (.d x)) => some x
    | some (some (.m f)) => some f.toD
    | _ => none
/-- a value kept: a slot's own thing is frozen -/
@[simp ↓] def keepE : E1 → Mo D
  | .d x, st => .ok x st
  | .s i, st => match st.sl[i]? with
    | some (some (.d x)) => .ok x st
    | some (some (.m f)) => .ok f.toD { st with sl := st.sl.set i (some (.d f.toD)) }
    | _ => .bad
@[simp ↓] def keepX : EX → Mo D
  | .e e, st => keepE e st
  | .f fr, st => .ok fr.toD st
/-- what an exception's fields are -/
def ExD (n : Kn) (B : Bs) (H : Hp) : List D → Option Addr → Prop
  | [], d => d = none
  | [x], d => ∃ dx nm v, d = some dx ∧ H dx = some (.xd [(nm, v)]) ∧ IsD n B x v
  | _, _ => False
abbrev Fs := List (Addr × Fr)
def Post {α : Type} (c : Cn) (W : WX) (σ : Sg) (B : Bs) (r : Rs α) (k : α → MS → Prop) : Prop := match r with
  | .ok a st => k a st
  | .ex x as st => ∀ B' H' C d, B.le B' → Rel c B' σ H' st [] → c.n.mg x = some (.ref C) → ExD c.n B' H' as d → W (.ref C) d σ H'
  | .bad => False
theorem Post.up {α : Type} {c : Cn} {W : WX} {σ : Sg} {B B' : Bs} {r : Rs α} {k k' : α → MS → Prop} (h : Post c W σ B r k) (e : B.le B') (hk : ∀ a st, k a st → k' a st) : Post c W σ B' r k' := by
  cases r with
  | ok a st => exact hk a st h
  | ex x as st => exact fun B'' H' C d l => h B'' H' C d (e.trans l)
  | bad => exact h
theorem Post.bind {α β : Type} {c : Cn} {W : WX} {σ : Sg} {B : Bs} {r : Rs α} {f : α → MS → Rs β} {k : β → MS → Prop} (h : Post c W σ B (r.then f) k) : Post c W σ B r fun a st => Post c W σ B (f a st) k := by
  cases r with
  | ok a st => exact h
  | ex x as st => exact h
  | bad => exact h
def IsE (n : Kn) (B : Bs) (σ : Sg) (v : V) : E1 → Prop
  | .d x => IsD n B x v
  | .s i => σ[i]? = some (some v)
theorem IsE.mono {n : Kn} {B B' : Bs} {σ : Sg} {v : V} {e : E1} (h : IsE n B σ v e) (l : B.le B') : IsE n B' σ v e := by
  cases e with
  | d x => exact IsD.mono l x v h
  | s i => exact h
def KE (c : Cn) (σ : Sg) (B : Bs) (fs : Fs) (Q : VK) : E1 → MS → Prop := fun e st => ∀ B' H' v, B.le B' → Rel c B' σ H' st fs → IsE c.n B' σ v e → Q v H'
def KX (c : Cn) (σ : Sg) (B : Bs) (fs : Fs) (Q : VK) : EX → MS → Prop := fun e st => match e with
  | .e e => ∀ B' H' v, B.le B' → Rel c B' σ H' st fs → IsE c.n B' σ v e → Q v H'
  | .f fr => ∀ B' H' a, B.le B' → Rel c B' σ H' st ((a, fr) :: fs) → Q (.ref a) H'
def KD (c : Cn) (σ : Sg) (B : Bs) (fs : Fs) (Q : VK) : D → MS → Prop := fun x st => ∀ B' H' v, B.le B' → Rel c B' σ H' st fs → IsD c.n B' x v → Q v H'
def KDs (c : Cn) (σ : Sg) (B : Bs) (fs : Fs) (Q : List V → Hp → Prop) : List D → MS → Prop := fun xs st => ∀ B' H' vs, B.le B' → Rel c B' σ H' st fs → IsDs c.n B' xs vs → Q vs H'
def KT (c : Cn) (σ : Sg) (B : Bs) (fs : Fs) (Q : Bool → Hp → Prop) : Bool → MS → Prop := fun b st => ∀ B' H', B.le B' → Rel c B' σ H' st fs → Q b H'
def rE (c : Cn) (W : WX) (m : Mo E1) : TE := fun σ H Q => ∃ B st fs, Rel c B σ H st fs ∧ Post c W σ B (m st) (KE c σ B fs Q)
def rX (c : Cn) (W : WX) (m : Mo EX) : TE := fun σ H Q => ∃ B st fs, Rel c B σ H st fs ∧ Post c W σ B (m st) (KX c σ B fs Q)
def rD (c : Cn) (W : WX) (m : Mo D) : TE := fun σ H Q => ∃ B st fs, Rel c B σ H st fs ∧ Post c W σ B (m st) (KD c σ B fs Q)
def rT (c : Cn) (W : WX) (m : Mo Bool) : TT := fun σ H Q => ∃ B st fs, Rel c B σ H st fs ∧ Post c W σ B (m st) (KT c σ B fs Q)
def rA (c : Cn) (W : WX) (m : Mo (List D)) : TA := fun σ H Q => ∃ B st fs, Rel c B σ H st fs ∧ Post c W σ B (m st) (KDs c σ B fs Q)
/-- an expression's mirror; one that may give a fresh thing; one whose value is kept; a test's; an argument list's -/
structure EE (X : Cx) (c : Cn) (W : WX) (e : Expr) (m : Mo E1) : Prop where
  pe : PE X e (rE c W m)
structure GE (X : Cx) (c : Cn) (W : WX) (e : Expr) (m : Mo EX) : Prop where
  pe : PE X e (rX c W m)
structure DE (X : Cx) (c : Cn) (W : WX) (e : Expr) (m : Mo D) : Prop where
  pe : PE X e (rD c W m)
structure TEs (X : Cx) (c : Cn) (W : WX) (e : Expr) (m : Mo Bool) : Prop where
  pt : PT X e (rT c W m)
structure AE (X : Cx) (c : Cn) (W : WX) (es : List Expr) (m : Mo (List D)) : Prop where
  pa : PA X es (rA c W m)
/-- the context fits -/
class Fact' (p : Prop) : Prop where
  out : p
class Gd (X : Cx) (c : Cn) : Prop where
  n : c.n = ⟨X.K, X.mg, c.n.T⟩
  calm : X.calm = true
  nd : X.N.Nodup
  nn : c.nn = X.N.length
class Rm (X : Cx) (k : outParam Nat) : Prop where
  room : Room k X.A
class Tk (X : Cx) (W : WX) : Prop where
  tk : Takes X W
theorem peImp {X : Cx} {e : Expr} {t t' : TE} (h : PE X e t) (f : ∀ σ H Q, t' σ H Q → t σ H Q) : PE X e t' := ⟨fun pins s σ H Q I q => h.run pins s σ H Q I (f σ H Q q)⟩
theorem ptImp {X : Cx} {e : Expr} {t t' : TT} (h : PT X e t) (f : ∀ σ H Q, t' σ H Q → t σ H Q) : PT X e t' := ⟨fun pins s σ H Q I q => h.run pins s σ H Q I (f σ H Q q)⟩
theorem paImp {X : Cx} {es : List Expr} {t t' : TA} (h : PA X es t) (f : ∀ σ H Q, t' σ H Q → t σ H Q) : PA X es t' := ⟨fun pos pins s σ H Q I q => h.run pos pins s σ H Q I (f σ H Q q)⟩
section
variable {X : Cx} {c : Cn} {W : WX} {e a b : Expr} {pos : Pos}
/-! ### a value as it stands -/
theorem Rel.slotD {B : Bs} {σ : Sg} {H : Hp} {st : MS} {fs : Fs} {i : Nat} {x : D} {v : V} (r : Rel c B σ H st fs) (hi : st.sl[i]? = some (some (.d x))) (hv : σ[i]? = some (some v)) : IsD c.n B x v := by
  obtain ⟨ad, τ, h1, h2, h3⟩ := r.sl
  obtain ⟨w, e, k⟩ := h3 i _ hi
  have hil : i < σ.length := (List.getElem?_eq_some_iff.mp hv).1
  rw [List.getElem?_append_left hil, hv] at e
  have ew : v = w := by simpa using e
  subst ew
  exact k
theorem Rel.slotM {B : Bs} {σ : Sg} {H : Hp} {st : MS} {fs : Fs} {i : Nat} {f : Fr} {v : V} (r : Rel c B σ H st fs) (hi : st.sl[i]? = some (some (.m f))) (hv : σ[i]? = some (some v)) : ∃ a, v = .ref a ∧ FrOk c.n B H a f ∧ Free c B H a := by
  obtain ⟨ad, τ, h1, h2, h3⟩ := r.sl
  obtain ⟨w, e, k⟩ := h3 i _ hi
  have hil : i < σ.length := (List.getElem?_eq_some_iff.mp hv).1
  rw [List.getElem?_append_left hil, hv] at e
  have ew : v = w := by simpa using e
  subst ew
  obtain ⟨a, e1, e2, e3⟩ := k
  exact ⟨a, e2, e3, (h2 i a e1).1⟩
theorem live_view {B : Bs} {σ : Sg} {H : Hp} {st : MS} {fs : Fs} {k : Nat} {f : Fr} {v : V} (r : Rel c B σ H st fs) (h : IsD c.n B (.live k) v) (hk : st.g[k]? = some f) : ∃ a, v = .ref a ∧ B.A k = some a ∧ FrOk c.n B H a f := by
  obtain ⟨a, e, hA⟩ := h
  obtain ⟨a', h1, h2, h3⟩ := r.lv.ob k f hk
  rw [hA] at h1
  cases h1
  exact ⟨a, e, hA, h3⟩
theorem val_ok {B : Bs} {σ : Sg} {H : Hp} {st : MS} {fs : Fs} {e : E1} {x : D} {v : V} (r : Rel c B σ H st fs) (h : IsE c.n B σ v e) (hv : val e st = some x) : VD c.n B H x v := by
  cases e with
  | d y =>
    cases y with
    | live k =>
      have hv' : (st.g[k]?).map Fr.toD = some x := hv
      cases q : st.g[k]? with
      | none => rw [q] at hv'; cases hv'
      | some f =>
        rw [q] at hv'
        cases hv'
        obtain ⟨a, rfl, _, h3⟩ := live_view r h q
        exact h3.view
    | tupF ds =>
      cases hv
      exact IsD.view r.lv.up (IsD.weak h)
    | _ =>
      cases hv
      exact IsD.view r.lv.up h
  | s i =>
    have h' : σ[i]? = some (some v) := h
    cases q : st.sl[i]? with
    | none => simp [val, q] at hv
    | some o =>
      cases o with
      | none => simp [val, q] at hv
      | some sv =>
        cases sv with
        | d y =>
          simp [val, q] at hv
          subst hv
          exact IsD.view r.lv.up (r.slotD q h')
        | m f =>
          simp [val, q] at hv
          subst hv
          obtain ⟨a, e2, e3, _⟩ := r.slotM q h'
          subst e2
          exact e3.view
theorem keepE_ok {B : Bs} {σ : Sg} {H : Hp} {st : MS} {fs : Fs} {e : E1} {v : V} {Q : VK} (r : Rel c B σ H st fs) (h : IsE c.n B σ v e) (p : Post c W σ B (keepE e st) (KD c σ B fs Q)) : Q v H := by
  cases e with
  | d y => exact p B H v (.refl B) r h
  | s i =>
    have h' : σ[i]? = some (some v) := h
    cases q : st.sl[i]? with
    | none => simp only [keepE, q] at p; exact p.elim
    | some o =>
      cases o with
      | none => simp only [keepE, q] at p; exact p.elim
      | some sv =>
        cases sv with
        | d y =>
          simp only [keepE, q] at p
          exact p B H v (.refl B) r (r.slotD q h')
        | m f =>
          simp only [keepE, q] at p
          obtain ⟨B', le, r', hd⟩ := r.freezeSlot q h'
          exact p B' H v le r' hd
theorem KD.up {B B' : Bs} {fs : Fs} {σ : Sg} {Q : VK} {x : D} {st : MS} (h : KD c σ B fs Q x st) (l : B.le B') : KD c σ B' fs Q x st := fun B'' H' v l' => h B'' H' v (l.trans l')
theorem KE.up {B B' : Bs} {fs : Fs} {σ : Sg} {Q : VK} {x : E1} {st : MS} (h : KE c σ B fs Q x st) (l : B.le B') : KE c σ B' fs Q x st := fun B'' H' v l' => h B'' H' v (l.trans l')
theorem KX.up {B B' : Bs} {fs : Fs} {σ : Sg} {Q : VK} {x : EX} {st : MS} (h : KX c σ B fs Q x st) (l : B.le B') : KX c σ B' fs Q x st := by
  cases x with
  | e e => exact fun B'' H' v l' => h B'' H' v (l.trans l')
  | f fr => exact fun B'' H' v l' => h B'' H' v (l.trans l')
theorem KT.up {B B' : Bs} {fs : Fs} {σ : Sg} {Q : Bool → Hp → Prop} {x : Bool} {st : MS} (h : KT c σ B fs Q x st) (l : B.le B') : KT c σ B' fs Q x st := fun B'' H' l' => h B'' H' (l.trans l')
theorem KDs.up {B B' : Bs} {fs : Fs} {σ : Sg} {Q : List V → Hp → Prop} {x : List D} {st : MS} (h : KDs c σ B fs Q x st) (l : B.le B') : KDs c σ B' fs Q x st := fun B'' H' v l' => h B'' H' v (l.trans l')
/-- kept -/
@[simp ↓] def mKeep (m : Mo E1) (st : MS) : Rs D := (m st).then keepE
@[simp ↓] def mKeepX (m : Mo EX) (st : MS) : Rs D := (m st).then keepX
theorem de_keep {m : Mo E1} (h : EE X c W e m) : DE X c W e (mKeep m) := ⟨peImp h.pe fun σ H Q ⟨B, st, fs, r, p⟩ => ⟨B, st, fs, r, (Post.bind p).up (.refl B) fun x st' k B' H' v l r' i => keepE_ok r' i (k.up l fun _ _ q => q.up l)⟩⟩
theorem de_keepX {m : Mo EX} (h : GE X c W e m) : DE X c W e (mKeepX m) := ⟨peImp h.pe fun σ H Q ⟨B, st, fs, r, p⟩ => ⟨B, st, fs, r, (Post.bind p).up (.refl B) fun x st' k => by
  cases x with
  | e e => exact fun B' H' v l r' i => keepE_ok r' i (k.up l fun _ _ q => q.up l)
  | f fr =>
    intro B' H' a l r'
    obtain ⟨B2, le, r2, hd⟩ := r'.freeze
    exact k B2 H' _ (l.trans le) r2 hd⟩⟩
@[simp ↓] def mDat (m : Mo D) (st : MS) : Rs E1 := (m st).then fun x st => .ok (.d x) st
theorem ee_dat {m : Mo D} (h : DE X c W e m) : EE X c W e (mDat m) := ⟨peImp h.pe fun σ H Q ⟨B, st, fs, r, p⟩ => ⟨B, st, fs, r, (Post.bind p).up (.refl B) fun x st' k B' H' v l r' i => k B' H' v l r' i⟩⟩
theorem de_dat {m : Mo D} (h : EE X c W e (mDat m)) : DE X c W e m := ⟨peImp h.pe fun σ H Q ⟨B, st, fs, r, p⟩ => ⟨B, st, fs, r, by
  unfold mDat
  cases q : m st with
  | ok x s =>
    rw [q] at p
    exact p
  | ex x as s =>
    rw [q] at p
    exact p
  | bad =>
    rw [q] at p
    exact p⟩⟩
@[simp ↓] def mX (m : Mo E1) (st : MS) : Rs EX := (m st).then fun x st => .ok (.e x) st
theorem ge_e {m : Mo E1} (h : EE X c W e m) : GE X c W e (mX m) := ⟨peImp h.pe fun σ H Q ⟨B, st, fs, r, p⟩ => ⟨B, st, fs, r, (Post.bind p).up (.refl B) fun x st' k B' H' v l r' i => k B' H' v l r' i⟩⟩
/-- frozen at once where fresh -/
@[simp ↓] def mFz (m : Mo EX) (st : MS) : Rs E1 := (m st).then fun x st => match x with
  | .e e => .ok e st
  | .f fr => .ok (.d fr.toD) st
theorem ee_fz {m : Mo EX} (h : GE X c W e m) : EE X c W e (mFz m) := ⟨peImp h.pe fun σ H Q ⟨B, st, fs, r, p⟩ => ⟨B, st, fs, r, (Post.bind p).up (.refl B) fun x st' k => by
  cases x with
  | e e => exact fun B' H' v l r' i => k B' H' v l r' i
  | f fr =>
    intro B' H' a l r'
    obtain ⟨B2, le, r2, hd⟩ := r'.freeze
    exact k B2 H' _ (l.trans le) r2 hd⟩⟩
/-! ### names and constants -/
@[simp ↓] def mVar (i : Nat) (st : MS) : Rs E1 := match st.sl[i]? with
  | some (some (.d x)) => .ok (.d x) st
  | some (some (.m _)) => .ok (.s i) st
  | _ => .bad
@[simp ↓] def mC (x : D) (st : MS) : Rs E1 := .ok (.d x) st
theorem ee_var [g : Gd X c] (i : Nat) {x : Str} (hN : X.N[i]? = some x) (hv : Vis X.env.scope x) (hd : (x == ("__debug__" : Str)) = false := by decide) (hcd : (x == ("__classdict__" : Str)) = false := by decide) : EE X c W (.Name x pos) (mVar i) :=
  ⟨peImp (pe_var hN hv hd hcd) fun σ H Q ⟨B, st, fs, r, p⟩ => by
    have hil : i < σ.length := by
      rw [r.len, g.nn]
      exact (List.getElem?_eq_some_iff.mp hN).1
    unfold mVar at p
    split at p
    · rename_i y e
      obtain ⟨ad, τ, h1, h2, h3⟩ := r.sl
      obtain ⟨w, e2, k⟩ := h3 i _ e
      rw [List.getElem?_append_left hil] at e2
      exact ⟨w, e2, p B H w (.refl B) r k⟩
    · rename_i f e
      obtain ⟨ad, τ, h1, h2, h3⟩ := r.sl
      obtain ⟨w, e2, k⟩ := h3 i _ e
      rw [List.getElem?_append_left hil] at e2
      exact ⟨w, e2, p B H w (.refl B) r e2⟩
    · exact p.elim⟩
theorem ee_c {v : V} {x : D} (h : PE X e (tC v)) (hv : ∀ n B, IsD n B x v) : EE X c W e (mC x) := ⟨peImp h fun σ H Q ⟨B, st, fs, r, p⟩ => p B H v (.refl B) r (hv _ _)⟩
theorem ee_int {i : Int} {j : Nat} : EE X c W (.Constant (.int i) j pos) (mC (.int i)) := ee_c pe_int fun _ _ => rfl
theorem ee_bl {b : Bool} {j : Nat} : EE X c W (.Constant (.bool b) j pos) (mC (.bl b)) := ee_c pe_bl fun _ _ => rfl
theorem ee_non {j : Nat} : EE X c W (.Constant .none j pos) (mC .non) := ee_c pe_non fun _ _ => rfl
theorem ee_str {x : Str} {j : Nat} : EE X c W (.Constant (.str x) j pos) (mC (.str x)) := ee_c pe_str fun _ _ => rfl
/-! ### two places, one place -/
def Ok2 (X : Cx) (c : Cn) (f : Value → Value → Sem Value) (op : D → D → Option D) : Prop :=
  ∃ r : R2, OpR X f r ∧ ∀ (B : Bs) (σ : Sg) (H : Hp) (st : MS) (fs : Fs) (x y : V) (a b d : D) (Q : VK), Rel c B σ H st fs → VD c.n B H a x → VD c.n B H b y → op a b = some d → KD c σ B fs Q d st → r x y H Q
def Ok1 (X : Cx) (c : Cn) (f : Value → Sem Value) (op : D → Option D) : Prop :=
  ∃ r : V → Hp → VK → Prop, UnR X f r ∧ ∀ (B : Bs) (σ : Sg) (H : Hp) (st : MS) (fs : Fs) (x : V) (a d : D) (Q : VK), Rel c B σ H st fs → VD c.n B H a x → op a = some d → KD c σ B fs Q d st → r x H Q
theorem Ok2.or {f : Value → Value → Sem Value} {op op' : D → D → Option D} (h : Ok2 X c f op) (h' : Ok2 X c f op') : Ok2 X c f (fun x y => (op x y).or (op' x y)) := by
  obtain ⟨r, h1, h2⟩ := h
  obtain ⟨r', h1', h2'⟩ := h'
  refine ⟨_, h1.or h1', fun B σ H st fs x y a b d Q R va vb e k => ?_⟩
  cases q : op a b with
  | some d' =>
    have e' : (some d').or (op' a b) = some d := by rw [← q]; exact e
    cases (show some d' = some d from e')
    exact .inl (h2 B σ H st fs x y a b _ Q R va vb q k)
  | none =>
    have e' : (none : Option D).or (op' a b) = some d := by rw [← q]; exact e
    exact .inr (h2' B σ H st fs x y a b _ Q R va vb (by simpa using e') k)
@[simp ↓] def mOp2 (op : D → D → Option D) (ma mb : Mo E1) (st : MS) : Rs E1 := (ma st).then fun a s1 => (mb s1).then fun b s2 => opt (match val a s2, val b s2 with
  | some x, some y => (op x y).map E1.d
  | _, _ => none) s2
@[simp ↓] def mOp1 (op : D → Option D) (ma : Mo E1) (st : MS) : Rs E1 := (ma st).then fun a s1 => opt (((val a s1).bind op).map E1.d) s1
theorem op2_go {f : Value → Value → Sem Value} {op : D → D → Option D} {r : R2} {ma mb : Mo E1} {σ : Sg} {H : Hp} {Q : VK}
    (hr : ∀ (B : Bs) (σ : Sg) (H : Hp) (st : MS) (fs : Fs) (x y : V) (a b d : D) (Q : VK), Rel c B σ H st fs → VD c.n B H a x → VD c.n B H b y → op a b = some d → KD c σ B fs Q d st → r x y H Q)
    (h : rE c W (mOp2 op ma mb) σ H Q) : rE c W ma σ H fun x H1 => rE c W mb σ H1 fun y H2 => r x y H2 Q := by
  obtain ⟨B, st, fs, R, p⟩ := h
  refine ⟨B, st, fs, R, (Post.bind p).up (.refl B) fun a s1 k B1 H1 v1 l1 R1 i1 => ?_⟩
  refine ⟨B1, s1, fs, R1, (Post.bind k).up l1 fun b s2 k2 B2 H2 v2 l2 R2 i2 => ?_⟩
  split at k2
  · rename_i x y ex ey
    cases q : op x y with
    | some d =>
      rw [q] at k2
      exact hr B2 σ H2 s2 fs v1 v2 x y d Q R2 (val_ok R2 (i1.mono l2) ex) (val_ok R2 i2 ey) q fun B' H' v l r' i => k2 B' H' v ((l1.trans l2).trans l) r' i
    | none =>
      rw [q] at k2
      exact k2.elim
  · exact k2.elim
theorem ee_op2 {o : Operator} {op : D → D → Option D} {ma mb : Mo E1} (ho : Ok2 X c (binaryOp o) op) (ha : EE X c W a ma) (hb : EE X c W b mb) : EE X c W (.BinOp a o b pos) (mOp2 op ma mb) := by
  obtain ⟨r, h1, h2⟩ := ho
  exact ⟨peImp (pe_op h1 ha.pe hb.pe) fun σ H Q h => op2_go (f := binaryOp o) h2 h⟩
theorem ee_op1 {o : UnaryOp} {op : D → Option D} {ma : Mo E1} (ho : Ok1 X c (unaryOp o) op) (ha : EE X c W a ma) : EE X c W (.UnaryOp o a pos) (mOp1 op ma) := by
  obtain ⟨r, h1, h2⟩ := ho
  refine ⟨peImp (pe_un h1 ha.pe) fun σ H Q ⟨B, st, fs, R, p⟩ => ⟨B, st, fs, R, (Post.bind p).up (.refl B) fun x s1 k B1 H1 v1 l1 R1 i1 => ?_⟩⟩
  cases q : val x s1 with
  | none =>
    rw [q] at k
    exact k.elim
  | some y =>
    rw [q] at k
    cases q2 : op y with
    | none =>
      simp only [Option.bind_some, q2, Option.map_none] at k
      exact k.elim
    | some d =>
      simp only [Option.bind_some, q2, Option.map_some] at k
      exact h2 B1 σ H1 s1 fs v1 y d Q R1 (val_ok R1 i1 q) q2 fun B' H' v l r' i => k B' H' v (l1.trans l) r' i
theorem ee_cmp {o : CmpOp} {op : D → D → Option D} {ma mb : Mo E1} (ho : Ok2 X c (compareOp o) op) (ha : EE X c W a ma) (hb : EE X c W b mb) (hm : behindInMarks o b = false) : EE X c W (.Compare a [o] [b] pos) (mOp2 op ma mb) := by
  obtain ⟨r, h1, h2⟩ := ho
  exact ⟨peImp (pe_cmpR h1 ha.pe hb.pe hm) fun σ H Q h => op2_go (f := compareOp o) h2 h⟩
/-! ### ints -/
theorem ok2_int0 {f : Value → Value → Sem Value} {g : Int → Int → V} {op : D → D → Option D} (h : OpR X f (rI0 g)) (hop : ∀ a b d, op a b = some d → ∃ i j, a = .int i ∧ b = .int j ∧ ∀ n B, IsD n B d (g i j)) : Ok2 X c f op :=
  ⟨_, h, fun B σ H st fs x y a b d Q R va vb e k => by
    obtain ⟨i, j, rfl, rfl, hd⟩ := hop a b d e
    exact ⟨i, j, va, vb, k B H _ (.refl B) R (hd _ _)⟩⟩
theorem ok2_int {f : Value → Value → Sem Value} {C : Int → Int → Prop} {g : Int → Int → V} {op : D → D → Option D} (h : OpR X f (rI C g)) (hop : ∀ a b d, op a b = some d → ∃ i j, a = .int i ∧ b = .int j ∧ C i j ∧ ∀ n B, IsD n B d (g i j)) : Ok2 X c f op :=
  ⟨_, h, fun B σ H st fs x y a b d Q R va vb e k => by
    obtain ⟨i, j, rfl, rfl, hc, hd⟩ := hop a b d e
    exact ⟨i, j, va, vb, hc, k B H _ (.refl B) R (hd _ _)⟩⟩
/-- from ints to an int -/
@[simp] def iI (g : Int → Int → Int) : D → D → Option D
  | .int i, .int j => some (.int (g i j))
  | _, _ => none
@[simp] def iB (g : Int → Int → Bool) : D → D → Option D
  | .int i, .int j => some (.bl (g i j))
  | _, _ => none
@[simp] def iC (C : Int → Int → Bool) (g : Int → Int → Int) : D → D → Option D
  | .int i, .int j => if C i j then some (.int (g i j)) else none
  | _, _ => none
theorem iI_some {g : Int → Int → Int} (a b d : D) (h : iI g a b = some d) : ∃ i j, a = .int i ∧ b = .int j ∧ ∀ n B, IsD n B d (V.int (g i j)) := by
  unfold iI at h
  split at h
  · cases h
    exact ⟨_, _, rfl, rfl, fun _ _ => rfl⟩
  · cases h
theorem iB_some {g : Int → Int → Bool} (a b d : D) (h : iB g a b = some d) : ∃ i j, a = .int i ∧ b = .int j ∧ ∀ n B, IsD n B d (V.bl (g i j)) := by
  unfold iB at h
  split at h
  · cases h
    exact ⟨_, _, rfl, rfl, fun _ _ => rfl⟩
  · cases h
theorem iC_some {C : Int → Int → Bool} {P : Int → Int → Prop} {g : Int → Int → Int} (hP : ∀ i j, C i j = true → P i j) (a b d : D) (h : iC C g a b = some d) : ∃ i j, a = .int i ∧ b = .int j ∧ P i j ∧ ∀ n B, IsD n B d (V.int (g i j)) := by
  unfold iC at h
  split at h
  · split at h
    · rename_i q
      cases h
      exact ⟨_, _, rfl, rfl, hP _ _ q, fun _ _ => rfl⟩
    · cases h
  · cases h
/-- a size at which products are reckoned -/
def sm (i : Int) : Bool := decide (i.natAbs < 2 ^ 100000)
def mulC (i j : Int) : Bool := decide (i.natAbs < 2 ^ 64) || decide (j.natAbs < 2 ^ 64) || (sm i && sm j)
def divC (_ j : Int) : Bool := decide (0 < j) && decide (j.natAbs < 2 ^ 9000)
def powC (i j : Int) : Bool := decide (0 ≤ j) && decide (j.natAbs ≤ 1000000) && decide (i.natAbs < 2 ^ 64)
def shlC (i j : Int) : Bool := decide (0 ≤ j) && decide (j.natAbs ≤ 1000000) && sm i
theorem log2_sm {i : Int} {k : Nat} (hk : 0 < k) (h : i.natAbs < 2 ^ k) : i.natAbs.log2 < k := PySem.Flt.log2_lt_of hk h
theorem mulC_ok (i j : Int) (h : mulC i j = true) : IntMulOk i j := by
  unfold mulC at h
  rw [Bool.or_eq_true, Bool.or_eq_true] at h
  rcases h with (h | h) | h
  · have h := of_decide_eq_true h
    exact (CMul.ok (.inl (by omega)))
  · have h := of_decide_eq_true h
    exact (CMul.ok (.inr (by omega)))
  · rw [Bool.and_eq_true] at h
    have h1 := of_decide_eq_true h.1
    have h2 := of_decide_eq_true h.2
    have g1 := log2_sm (by decide) h1
    have g2 := log2_sm (by decide) h2
    exact CMulW.ok (by unfold CMulW; omega)
theorem op_mulA : OpR X (binaryOp .Mult) (rI IntMulOk fun i j => .int (i * j)) := opI fun _ _ _ _ _ _ _ hc q => mul_int q hc
theorem ok_sub : Ok2 X c (binaryOp .Sub) (iI fun i j => i - j) := ok2_int0 op_sub iI_some
theorem ok_addI : Ok2 X c (binaryOp .Add) (iI fun i j => i + j) := ok2_int0 op_add iI_some
theorem ok_mulI : Ok2 X c (binaryOp .Mult) (iC mulC fun i j => i * j) := ok2_int op_mulA (iC_some mulC_ok)
theorem ok_div : Ok2 X c (binaryOp .FloorDiv) (iC divC fun i j => i / j) := ok2_int op_fdivW (iC_some fun i j h => by
  unfold divC at h
  rw [Bool.and_eq_true] at h
  exact ⟨of_decide_eq_true h.1, log2_sm (by decide) (of_decide_eq_true h.2)⟩)
theorem ok_mod : Ok2 X c (binaryOp .Mod) (iC (fun _ j => decide (0 < j)) fun i j => i % j) := ok2_int op_mod (iC_some fun i j h => of_decide_eq_true h)
theorem ok_pow : Ok2 X c (binaryOp .Pow) (iC powC fun i j => i ^ j.toNat) := ok2_int op_pow (iC_some fun i j h => by
  unfold powC at h
  rw [Bool.and_eq_true, Bool.and_eq_true] at h
  have h0 := of_decide_eq_true h.1.1
  have h2 := of_decide_eq_true h.1.2
  exact ⟨h0, by omega, of_decide_eq_true h.2⟩)
theorem ok_shl : Ok2 X c (binaryOp .LShift) (iC shlC fun i j => i * 2 ^ j.toNat) := ok2_int op_shlW (iC_some fun i j h => by
  unfold shlC at h
  rw [Bool.and_eq_true, Bool.and_eq_true] at h
  have h1 := of_decide_eq_true h.1.1
  have h2 := of_decide_eq_true h.1.2
  have h3 := PyProof.Rows.intBits_le (of_decide_eq_true h.2)
  refine ⟨h1, ?_⟩
  have e : (2 : Int) ^ 27 = 134217728 := by decide
  rw [e]
  omega)
theorem ok_shr : Ok2 X c (binaryOp .RShift) (iC (fun _ j => decide (0 ≤ j)) fun i j => i / 2 ^ j.toNat) := ok2_int op_shr (iC_some fun i j h => of_decide_eq_true h)
theorem ok_and : Ok2 X c (binaryOp .BitAnd) (iI Builtin.bitAnd) := ok2_int0 op_and iI_some
theorem ok_or : Ok2 X c (binaryOp .BitOr) (iI Builtin.bitOr) := ok2_int0 op_or iI_some
theorem ok_xor : Ok2 X c (binaryOp .BitXor) (iI Builtin.bitXor) := ok2_int0 op_xor iI_some
theorem ok_lt : Ok2 X c (compareOp .Lt) (iB fun i j => decide (i < j)) := ok2_int0 op_lt iB_some
theorem ok_le : Ok2 X c (compareOp .LtE) (iB fun i j => decide (i ≤ j)) := ok2_int0 op_le iB_some
theorem ok_gt : Ok2 X c (compareOp .Gt) (iB fun i j => decide (j < i)) := ok2_int0 op_gt iB_some
theorem ok_ge : Ok2 X c (compareOp .GtE) (iB fun i j => decide (j ≤ i)) := ok2_int0 op_ge iB_some
@[simp] def i1 (g : Int → Int) : D → Option D
  | .int i => some (.int (g i))
  | _ => none
theorem ok1_int {f : Value → Sem Value} {g : Int → Int} (h : UnR X f (rU fun i => .int (g i))) : Ok1 X c f (i1 g) := ⟨_, h, fun B σ H st fs x a d Q R va e k => by
  unfold i1 at e
  split at e
  · cases e
    exact ⟨_, va, k B H _ (.refl B) R rfl⟩
  · cases e⟩
theorem ok_neg : Ok1 X c (unaryOp .USub) (i1 fun i => -i) := ok1_int un_neg
theorem ok_inv : Ok1 X c (unaryOp .Invert) (i1 Builtin.bitNot) := ok1_int un_inv
/-! ### == of data -/
mutual
def toP : D → PyData
  | .non => .none
  | .bl b => .bool b
  | .int i => .int i
  | .str s => .str s
  | .tup ds => .tuple (toPs ds)
  | .lst ds => .list (toPs ds)
  | _ => .dict []
def toPs : List D → List PyData
  | [] => []
  | d :: ds => toP d :: toPs ds
end
mutual
theorem dp_of {n : Kn} {B : Bs} {H : Hp} (e : Up B.H0 H) : ∀ (d : D) (v : V), IsD n B d v → (toP d).canLay0 = true → Dp n.K H v (toP d)
  | .non, v, h, _ => by cases (show v = .non from h); exact .non
  | .bl b, v, h, _ => by cases (show v = .bl b from h); exact .bl b
  | .int b, v, h, _ => by cases (show v = .int b from h); exact .int b
  | .str b, v, h, _ => by cases (show v = .str b from h); exact .str b
  | .tup ds, v, h, q => by
    obtain ⟨a, vs, rfl, h2, h3⟩ := h
    exact .tup (sqT_mono e h2) (dps_of e ds vs h3 q)
  | .lst ds, v, h, q => by
    obtain ⟨a, vs, rfl, h2, h3⟩ := h
    exact .lst (.inl (rd_mono e h2)) (dps_of e ds vs h3 q)
  | .dct ks ds, v, h, q => by cases q
  | .dctT ks ds, v, h, q => by cases q
  | .ins c fs ds, v, h, q => by cases q
  | .live k, v, h, q => by cases q
  | .scr k, v, h, q => by cases q
  | .tupF k, v, h, q => by cases q
theorem dps_of {n : Kn} {B : Bs} {H : Hp} (e : Up B.H0 H) : ∀ (ds : List D) (vs : List V), IsDs n B ds vs → PyData.canLayAll0 (toPs ds) = true → DpAll n.K H vs (toPs ds)
  | [], vs, h, _ => by cases (show vs = [] from h); exact .nil
  | d :: ds, vs, h, q => by
    obtain ⟨v, r, rfl, h2, h3⟩ := h
    have q' : ((toP d).canLay0 && PyData.canLayAll0 (toPs ds)) = true := q
    rw [Bool.and_eq_true] at q'
    exact .cons (dp_of e d v h2 q'.1) (dps_of e ds r h3 q'.2)
end
theorem dp_view {n : Kn} {B : Bs} {H : Hp} (e : Up B.H0 H) {d : D} {v : V} (h : VD n B H d v) (q : (toP d).canLay0 = true) : Dp n.K H v (toP d) := by
  cases d with
  | lst ds =>
    obtain ⟨a, vs, rfl, h2, h3⟩ := h
    exact .lst (.inl h2) (dps_of e ds vs h3 q)
  | tup ds =>
    obtain ⟨a, vs, rfl, h2, h3⟩ := h
    exact .tup (sqT_mono e h2) (dps_of e ds vs h3 q)
  | non => exact dp_of e .non v h q
  | bl b => exact dp_of e (.bl b) v h q
  | int b => exact dp_of e (.int b) v h q
  | str b => exact dp_of e (.str b) v h q
  | dct ks ds => cases q
  | dctT ks ds => cases q
  | ins c fs ds => cases q
  | live k => cases q
  | scr k => cases q
  | tupF k => cases q
def shp (d : D) : Bool := SeqAt.shaped (toP d)
def eqD (x y : D) : Bool := PyData.eqv (toP x) (toP y)
def fEq (x y : D) : Option D := if shp x && shp y then some (.bl (eqD x y)) else none
def fNe (x y : D) : Option D := if shp x && shp y then some (.bl (!eqD x y)) else none
theorem ok_eq [g : Gd X c] (hu : X.A.units + 64 < cLine) : Ok2 X c (compareOp .Eq) fEq := ⟨_, op_eqD hu, fun B σ H st fs x y a b d Q R va vb e k => by
  unfold fEq at e
  split at e
  · rename_i q
    rw [Bool.and_eq_true] at q
    cases e
    have hK : c.n.K = X.K := by rw [g.n]
    refine ⟨toP a, toP b, hK ▸ dp_view R.lv.up va (SeqAt.canLay_of_shaped q.1), hK ▸ dp_view R.lv.up vb (SeqAt.canLay_of_shaped q.2), q.1, q.2, k B H _ (.refl B) R rfl⟩
  · cases e⟩
theorem ok_ne [g : Gd X c] (hu : X.A.units + 64 < cLine) : Ok2 X c (compareOp .NotEq) fNe := ⟨_, op_neD hu, fun B σ H st fs x y a b d Q R va vb e k => by
  unfold fNe at e
  split at e
  · rename_i q
    rw [Bool.and_eq_true] at q
    cases e
    have hK : c.n.K = X.K := by rw [g.n]
    refine ⟨toP a, toP b, hK ▸ dp_view R.lv.up va (SeqAt.canLay_of_shaped q.1), hK ▸ dp_view R.lv.up vb (SeqAt.canLay_of_shaped q.2), q.1, q.2, k B H _ (.refl B) R rfl⟩
  · cases e⟩
/-! ### tests, and, or, not, if -/
@[simp] def asB : D → Option Bool
  | .bl b => some b
  | _ => none
@[simp ↓] def mTest (m : Mo E1) (st : MS) : Rs Bool := (m st).then fun e s => opt ((val e s).bind asB) s
theorem val_bl {B : Bs} {σ : Sg} {H : Hp} {st : MS} {fs : Fs} {e : E1} {b : Bool} {v : V} (r : Rel c B σ H st fs) (i : IsE c.n B σ v e) (h : (val e st).bind asB = some b) : v = .bl b := by
  cases q : val e st with
  | none => rw [q] at h; cases h
  | some x =>
    rw [q] at h
    cases x with
    | bl b' =>
      have h' : some b' = some b := h
      cases h'
      exact val_ok r i q
    | _ => cases h
theorem test_go {m : Mo E1} {t : TE} {σ : Sg} {H : Hp} {Q : Bool → Hp → Prop} (h : rT c W (mTest m) σ H Q) : rE c W m σ H fun x H1 => ∃ k, x = .bl k ∧ Q k H1 := by
  obtain ⟨B, st, fs, R, p⟩ := h
  refine ⟨B, st, fs, R, (Post.bind p).up (.refl B) fun e s1 k B1 H1 v1 l1 R1 i1 => ?_⟩
  cases q : (val e s1).bind asB with
  | none =>
    rw [q] at k
    exact k.elim
  | some b =>
    rw [q] at k
    exact ⟨b, val_bl R1 i1 q, k B1 H1 l1 R1⟩
/-- by its value (a True or False): anything but and, or, not, a comparison -/
theorem te_val {m : Mo E1} (h : EE X c W e m) (he : ∀ whole, isTrue e X.env whole = (do let v ← whole; standAt e.pos; holding [v] (truthy v)) := by intro _; rfl) : TEs X c W e (mTest m) :=
  ⟨ptImp (pt_val h.pe he) fun σ H Q h => test_go (t := fun _ _ _ => True) h⟩
theorem te_cmp {o : CmpOp} {op : D → D → Option D} {ma mb : Mo E1} (ho : Ok2 X c (compareOp o) op) (ha : EE X c W a ma) (hb : EE X c W b mb) (hm : behindInMarks o b = false) : TEs X c W (.Compare a [o] [b] pos) (mTest (mOp2 op ma mb)) := by
  obtain ⟨r, h1, h2⟩ := ho
  exact ⟨ptImp (pt_cmpR h1 ha.pe hb.pe hm) fun σ H Q h => op2_go (f := compareOp o) h2 (test_go (t := fun _ _ _ => True) h)⟩
@[simp ↓] def mAnd (ma mb : Mo Bool) (st : MS) : Rs Bool := (ma st).then fun b s => if b then mb s else .ok false s
@[simp ↓] def mOr (ma mb : Mo Bool) (st : MS) : Rs Bool := (ma st).then fun b s => if b then .ok true s else mb s
@[simp ↓] def mNot (ma : Mo Bool) (st : MS) : Rs Bool := (ma st).then fun b s => .ok (!b) s
/-- a chain of and, or -/
structure WE (X : Cx) (c : Cn) (W : WX) (e : Expr) (m : Mo Bool) : Prop where
  pw : PW X e (rT c W m)
theorem pwImp {X : Cx} {e : Expr} {t t' : TT} (h : PW X e t) (f : ∀ σ H Q, t' σ H Q → t σ H Q) : PW X e t' := ⟨fun w pins s σ H Q I q => h.run w pins s σ H Q I (f σ H Q q)⟩
variable {rest : List Expr}
theorem te_w {m : Mo Bool} (h : WE X c W e m) : TEs X c W e m := ⟨h.pw.pt⟩
theorem we_and1 {ma : Mo Bool} (ha : TEs X c W a ma) : WE X c W (.BoolOp .And [a] pos) ma := ⟨pw_and1 ha.pt⟩
theorem we_or1 {ma : Mo Bool} (ha : TEs X c W a ma) : WE X c W (.BoolOp .Or [a] pos) ma := ⟨pw_or1 ha.pt⟩
theorem we_and {ma mb : Mo Bool} (ha : TEs X c W a ma) (hb : WE X c W (.BoolOp .And (b :: rest) pos) mb) : WE X c W (.BoolOp .And (a :: b :: rest) pos) (mAnd ma mb) :=
  ⟨pwImp (pw_and ha.pt hb.pw) fun σ H Q ⟨B, st, fs, R, p⟩ => ⟨B, st, fs, R, (Post.bind p).up (.refl B) fun x s1 k B1 H1 l1 R1 => by
    cases x with
    | true =>
      rw [if_pos rfl]
      exact ⟨B1, s1, fs, R1, Post.up (show Post c W σ B (mb s1) (KT c σ B fs Q) from k) l1 fun _ _ q => q.up l1⟩
    | false =>
      rw [if_neg Bool.false_ne_true]
      exact k B1 H1 l1 R1⟩⟩
theorem we_or {ma mb : Mo Bool} (ha : TEs X c W a ma) (hb : WE X c W (.BoolOp .Or (b :: rest) pos) mb) : WE X c W (.BoolOp .Or (a :: b :: rest) pos) (mOr ma mb) :=
  ⟨pwImp (pw_or ha.pt hb.pw) fun σ H Q ⟨B, st, fs, R, p⟩ => ⟨B, st, fs, R, (Post.bind p).up (.refl B) fun x s1 k B1 H1 l1 R1 => by
    cases x with
    | true =>
      rw [if_pos rfl]
      exact k B1 H1 l1 R1
    | false =>
      rw [if_neg Bool.false_ne_true]
      exact ⟨B1, s1, fs, R1, Post.up (show Post c W σ B (mb s1) (KT c σ B fs Q) from k) l1 fun _ _ q => q.up l1⟩⟩⟩
theorem te_not {ma : Mo Bool} (ha : TEs X c W a ma) : TEs X c W (.UnaryOp .Not a pos) (mNot ma) :=
  ⟨ptImp (pt_not ha.pt) fun σ H Q ⟨B, st, fs, R, p⟩ => ⟨B, st, fs, R, (Post.bind p).up (.refl B) fun x s1 k B1 H1 l1 R1 => k B1 H1 l1 R1⟩⟩
/-- as values -/
@[simp ↓] def mAndV (ma mb : Mo E1) (st : MS) : Rs E1 := (mTest ma st).then fun b s => if b then mb s else .ok (.d (.bl false)) s
@[simp ↓] def mOrV (ma mb : Mo E1) (st : MS) : Rs E1 := (mTest ma st).then fun b s => if b then .ok (.d (.bl true)) s else mb s
@[simp ↓] def mNotV (ma : Mo E1) (st : MS) : Rs E1 := (mTest ma st).then fun b s => .ok (.d (.bl (!b))) s
theorem testV_go {m : Mo E1} {α : Type} {f : Bool → MS → Rs α} {σ : Sg} {B : Bs} {st : MS} {fs : Fs} {k : α → MS → Prop} (p : Post c W σ B ((mTest m st).then f) k) : Post c W σ B (m st) fun e s => ∀ B1 H1 v, B.le B1 → Rel c B1 σ H1 s fs → IsE c.n B1 σ v e → ∃ b, v = .bl b ∧ Post c W σ B (f b s) k := by
  unfold mTest at p
  cases q : m st with
  | bad => rw [q] at p; exact p
  | ex x as s => rw [q] at p; exact p
  | ok e s =>
    rw [q] at p
    intro B1 H1 v l1 R1 i1
    simp only [then_ok] at p
    cases q2 : (val e s).bind asB with
    | none =>
      rw [q2] at p
      exact p.elim
    | some b =>
      rw [q2] at p
      exact ⟨b, val_bl R1 i1 q2, p⟩
theorem ee_one {op : BoolOp} {m : Mo E1} (h : EE X c W a m) : EE X c W (.BoolOp op [a] pos) m := ⟨pe_one h.pe⟩
theorem ee_and {ma mb : Mo E1} (ha : EE X c W a ma) (hb : EE X c W (.BoolOp .And (b :: rest) pos) mb) : EE X c W (.BoolOp .And (a :: b :: rest) pos) (mAndV ma mb) :=
  ⟨peImp (pe_and ha.pe hb.pe) fun σ H Q ⟨B, st, fs, R, p⟩ => ⟨B, st, fs, R, (testV_go p).up (.refl B) fun e s k B1 H1 v l1 R1 i1 => by
    obtain ⟨b, e2, k⟩ := k B1 H1 v l1 R1 i1
    refine ⟨b, e2, ?_⟩
    cases b with
    | true =>
      rw [if_pos rfl]
      exact ⟨B1, s, fs, R1, Post.up (show Post c W σ B (mb s) (KE c σ B fs Q) from k) l1 fun _ _ q => q.up l1⟩
    | false =>
      rw [if_neg Bool.false_ne_true]
      exact k B1 H1 _ l1 R1 rfl⟩⟩
theorem ee_or {ma mb : Mo E1} (ha : EE X c W a ma) (hb : EE X c W (.BoolOp .Or (b :: rest) pos) mb) : EE X c W (.BoolOp .Or (a :: b :: rest) pos) (mOrV ma mb) :=
  ⟨peImp (pe_or ha.pe hb.pe) fun σ H Q ⟨B, st, fs, R, p⟩ => ⟨B, st, fs, R, (testV_go p).up (.refl B) fun e s k B1 H1 v l1 R1 i1 => by
    obtain ⟨b, e2, k⟩ := k B1 H1 v l1 R1 i1
    refine ⟨b, e2, ?_⟩
    cases b with
    | true =>
      rw [if_pos rfl]
      exact k B1 H1 _ l1 R1 rfl
    | false =>
      rw [if_neg Bool.false_ne_true]
      exact ⟨B1, s, fs, R1, Post.up (show Post c W σ B (mb s) (KE c σ B fs Q) from k) l1 fun _ _ q => q.up l1⟩⟩⟩
theorem ee_not {ma : Mo E1} (ha : EE X c W a ma) : EE X c W (.UnaryOp .Not a pos) (mNotV ma) :=
  ⟨peImp (pe_not ha.pe) fun σ H Q ⟨B, st, fs, R, p⟩ => ⟨B, st, fs, R, (testV_go p).up (.refl B) fun e s k B1 H1 v l1 R1 i1 => by
    obtain ⟨b, e2, k⟩ := k B1 H1 v l1 R1 i1
    exact ⟨b, e2, k B1 H1 _ l1 R1 rfl⟩⟩⟩
@[simp ↓] def mIf {α : Type} (mt : Mo Bool) (ma mb : Mo α) (st : MS) : Rs α := (mt st).then fun b s => if b then ma s else mb s
theorem ee_if {t : Expr} {mt : Mo Bool} {ma mb : Mo E1} (ht : TEs X c W t mt) (ha : EE X c W a ma) (hb : EE X c W b mb) : EE X c W (.IfExp t a b pos) (mIf mt ma mb) :=
  ⟨peImp (pe_ifExp ht.pt ha.pe hb.pe) fun σ H Q ⟨B, st, fs, R, p⟩ => ⟨B, st, fs, R, (Post.bind p).up (.refl B) fun x s1 k B1 H1 l1 R1 => by
    cases x with
    | true =>
      rw [if_pos rfl]
      exact ⟨B1, s1, fs, R1, Post.up (show Post c W σ B (ma s1) (KE c σ B fs Q) from k) l1 fun _ _ q => q.up l1⟩
    | false =>
      rw [if_neg Bool.false_ne_true]
      exact ⟨B1, s1, fs, R1, Post.up (show Post c W σ B (mb s1) (KE c σ B fs Q) from k) l1 fun _ _ q => q.up l1⟩⟩⟩
theorem ge_if {t : Expr} {mt : Mo Bool} {ma mb : Mo EX} (ht : TEs X c W t mt) (ha : GE X c W a ma) (hb : GE X c W b mb) : GE X c W (.IfExp t a b pos) (mIf mt ma mb) :=
  ⟨peImp (pe_ifExp ht.pt ha.pe hb.pe) fun σ H Q ⟨B, st, fs, R, p⟩ => ⟨B, st, fs, R, (Post.bind p).up (.refl B) fun x s1 k B1 H1 l1 R1 => by
    cases x with
    | true =>
      rw [if_pos rfl]
      exact ⟨B1, s1, fs, R1, Post.up (show Post c W σ B (ma s1) (KX c σ B fs Q) from k) l1 fun _ _ q => q.up l1⟩
    | false =>
      rw [if_neg Bool.false_ne_true]
      exact ⟨B1, s1, fs, R1, Post.up (show Post c W σ B (mb s1) (KX c σ B fs Q) from k) l1 fun _ _ q => q.up l1⟩⟩⟩
/-- a < b < c -/
@[simp ↓] def mChain (op op' : D → D → Option D) (ma mb mc : Mo E1) (st : MS) : Rs E1 := (ma st).then fun a s1 => (mb s1).then fun b s2 => match val a s2, val b s2 with
  | some x, some y => (match op x y with
    | some (.bl true) => (mc s2).then fun z s3 => opt (match val b s3, val z s3 with
      | some y, some w => (op' y w).map E1.d
      | _, _ => none) s3
    | some (.bl false) => .ok (.d (.bl false)) s2
    | _ => .bad)
  | _, _ => .bad
theorem ee_chain {cc : Expr} {o o' : CmpOp} {op op' : D → D → Option D} {ma mb mc : Mo E1} (ho : Ok2 X c (compareOp o) op) (ho' : Ok2 X c (compareOp o') op') (ha : EE X c W a ma) (hb : EE X c W b mb) (hc : EE X c W cc mc)
    (hm : lastMarks [o, o'] [b, cc] = false := by rfl) : EE X c W (.Compare a [o, o'] [b, cc] pos) (mChain op op' ma mb mc) := by
  obtain ⟨r, h1, h2⟩ := ho
  obtain ⟨r', h1', h2'⟩ := ho'
  refine ⟨peImp (pe_chain h1 h1' ha.pe hb.pe hc.pe hm) fun σ H Q ⟨B, st, fs, R, p⟩ => ?_⟩
  refine ⟨B, st, fs, R, (Post.bind p).up (.refl B) fun a s1 k B1 H1 v1 l1 R1 i1 => ?_⟩
  refine ⟨B1, s1, fs, R1, (Post.bind k).up l1 fun b s2 k2 B2 H2 v2 l2 R2 i2 => ?_⟩
  split at k2
  · rename_i x y ex ey
    split at k2
    · rename_i q
      refine h2 B2 σ H2 s2 fs v1 v2 x y _ _ R2 (val_ok R2 (i1.mono l2) ex) (val_ok R2 i2 ey) q fun B3 H3 v3 l3 R3 i3 => ⟨true, i3, ?_⟩
      rw [if_pos rfl]
      refine ⟨B3, s2, fs, R3, (Post.bind k2).up ((l1.trans l2).trans l3) fun z s3 k4 B4 H4 v4 l4 R4 i4 => ?_⟩
      split at k4
      · rename_i y' w ey' ew
        cases q2 : op' y' w with
        | some d =>
          rw [q2] at k4
          exact h2' B4 σ H4 s3 fs v2 v4 y' w d Q R4 (val_ok R4 ((i2.mono l3).mono l4) ey') (val_ok R4 i4 ew) q2 fun B' H' v l r' i => k4 B' H' v ((((l1.trans l2).trans l3).trans l4).trans l) r' i
        | none =>
          rw [q2] at k4
          exact k4.elim
      · exact k4.elim
    · rename_i q
      refine h2 B2 σ H2 s2 fs v1 v2 x y _ _ R2 (val_ok R2 (i1.mono l2) ex) (val_ok R2 i2 ey) q fun B3 H3 v3 l3 R3 i3 => ⟨false, i3, ?_⟩
      rw [if_neg Bool.false_ne_true]
      exact k2 B3 H3 _ ((l1.trans l2).trans l3) R3 rfl
    · exact k2.elim
  · exact k2.elim
end
end Y
namespace Y
open PySem PySem.Spec PyProof.Rows L2
section
variable {X : Cx} {c : Cn} {W : WX} {e a b : Expr} {es : List Expr} {pos : Pos}
/-! ### argument lists, displays -/
@[simp ↓] def mNil (st : MS) : Rs (List D) := .ok [] st
@[simp ↓] def mCons (m : Mo D) (ms : Mo (List D)) (st : MS) : Rs (List D) := (m st).then fun d s => (ms s).then fun ds s' => .ok (d :: ds) s'
theorem ae_nil : AE X c W [] mNil := ⟨paImp pa_nil fun σ H Q ⟨B, st, fs, r, p⟩ => p B H [] (.refl B) r rfl⟩
theorem ae_cons {m : Mo D} {ms : Mo (List D)} (h : DE X c W e m) (hs : AE X c W es ms) (hst : starEach (e :: es) X.env = (false, eval e X.env) :: starEach es X.env := by rfl) : AE X c W (e :: es) (mCons m ms) :=
  ⟨paImp (pa_cons h.pe hs.pa hst) fun σ H Q ⟨B, st, fs, r, p⟩ => ⟨B, st, fs, r, (Post.bind p).up (.refl B) fun d s k B1 H1 v l1 r1 i1 => ⟨B1, s, fs, r1, (Post.bind k).up l1 fun ds s' k2 B2 H2 vs l2 r2 i2 =>
    k2 B2 H2 (v :: vs) (l1.trans l2) r2 ⟨v, vs, rfl, IsD.mono l2 d v i1, i2⟩⟩⟩⟩
/-- the most items of a made list, tuple -/
def lim : Nat := 1000000
theorem lim_ok {n : Nat} (h : decide (n ≤ lim) = true) : n ≤ sizeLine := by
  have := of_decide_eq_true h
  rw [sizeLine_eq]
  unfold lim at this
  omega
@[simp ↓] def mTup (ms : Mo (List D)) (st : MS) : Rs E1 := (ms st).then fun ds s => if decide (ds.length ≤ lim) = true then .ok (.d (.tup ds)) s else .bad
@[simp ↓] def mLst (ms : Mo (List D)) (st : MS) : Rs EX := (ms st).then fun ds s => if decide (ds.length ≤ lim) = true then .ok (.f (.l ds)) s else .bad
theorem ee_tup {ms : Mo (List D)} {x1 : Nat} (h : AE X c W es ms) : EE X c W (.Tuple es x1 pos) (mTup ms) :=
  ⟨peImp (pe_tup h.pa) fun σ H Q ⟨B, st, fs, r, p⟩ => ⟨B, st, fs, r, (Post.bind p).up (.refl B) fun ds s k B1 H1 vs l1 r1 i1 => by
    split at k
    · rename_i q
      refine ⟨by rw [i1.length]; exact lim_ok q, fun a ha => ?_⟩
      obtain ⟨le, r2⟩ := r1.newD (o := .tup vs) ha
      exact k _ _ _ (l1.trans le) r2 ⟨a, vs, rfl, .inl (.inl upd_same), i1.mono le _ _⟩
    · exact k.elim⟩⟩
theorem ge_lst {ms : Mo (List D)} (h : AE X c W es ms) : GE X c W (.List es pos) (mLst ms) :=
  ⟨peImp (pe_lst h.pa) fun σ H Q ⟨B, st, fs, r, p⟩ => ⟨B, st, fs, r, (Post.bind p).up (.refl B) fun ds s k B1 H1 vs l1 r1 i1 => by
    split at k
    · rename_i q
      refine ⟨by rw [i1.length]; exact lim_ok q, fun a ha => ?_⟩
      exact k B1 _ a l1 (r1.newF (f := .l ds) ha ⟨vs, upd_same, i1⟩)
    · exact k.elim⟩⟩
/-! ### calls of built-ins by values: a result without a new thing, or a fresh one -/
inductive DR where
  | d (x : D) | f (fr : Fr)
@[simp] def DR.x : DR → EX
  | .d x => .e (.d x)
  | .f fr => .f fr
def OkC (X : Cx) (c : Cn) (f : Value) (op : List D → Option DR) : Prop :=
  ∃ r : List V → Hp → VK → Prop, CallR X f r ∧ ∀ (B : Bs) (σ : Sg) (H : Hp) (st : MS) (fs : Fs) (vs : List V) (ds : List D) (d : DR) (Q : VK), Rel c B σ H st fs → Paired (fun d v => VD c.n B H d v) ds vs → op ds = some d → KX c σ B fs Q d.x st → r vs H Q
/-- the arguments as they stand: not kept -/
structure VE (X : Cx) (c : Cn) (W : WX) (es : List Expr) (m : Mo (List E1)) : Prop where
  pa : PA X es (fun σ H Q => ∃ B st fs, Rel c B σ H st fs ∧ Post c W σ B (m st) fun es st => ∀ B' H' vs, B.le B' → Rel c B' σ H' st fs → Paired (fun e v => IsE c.n B' σ v e) es vs → Q vs H')
@[simp ↓] def vNil (st : MS) : Rs (List E1) := .ok [] st
@[simp ↓] def vCons (m : Mo E1) (ms : Mo (List E1)) (st : MS) : Rs (List E1) := (m st).then fun d s => (ms s).then fun ds s' => .ok (d :: ds) s'
theorem ve_nil : VE X c W [] vNil := ⟨paImp pa_nil fun σ H Q ⟨B, st, fs, r, p⟩ => p B H [] (.refl B) r .nil⟩
theorem ve_cons {m : Mo E1} {ms : Mo (List E1)} (h : EE X c W e m) (hs : VE X c W es ms) (hst : starEach (e :: es) X.env = (false, eval e X.env) :: starEach es X.env := by rfl) : VE X c W (e :: es) (vCons m ms) :=
  ⟨paImp (pa_cons h.pe hs.pa hst) fun σ H Q ⟨B, st, fs, r, p⟩ => ⟨B, st, fs, r, (Post.bind p).up (.refl B) fun d s k B1 H1 v l1 r1 i1 => ⟨B1, s, fs, r1, (Post.bind k).up l1 fun ds s' k2 B2 H2 vs l2 r2 i2 =>
    k2 B2 H2 (v :: vs) (l1.trans l2) r2 (.cons (i1.mono l2) i2)⟩⟩⟩
@[simp] def vals : List E1 → MS → Option (List D)
  | [], _ => some []
  | e :: es, st => match val e st with
    | some d => (match vals es st with
      | some ds => some (d :: ds)
      | none => none)
    | none => none
theorem vals_ok {B : Bs} {σ : Sg} {H : Hp} {st : MS} {fs : Fs} (r : Rel c B σ H st fs) : ∀ {es : List E1} {vs : List V} {ds : List D}, Paired (fun e v => IsE c.n B σ v e) es vs → vals es st = some ds → Paired (fun d v => VD c.n B H d v) ds vs
  | [], _, ds, .nil, h => by
    have h' : some [] = some ds := h
    cases h'
    exact .nil
  | e :: es, _, ds, .cons h1 h2, h => by
    unfold vals at h
    cases q : val e st with
    | none => rw [q] at h; cases h
    | some d =>
      cases q2 : vals es st with
      | none => rw [q, q2] at h; cases h
      | some ds' =>
        rw [q, q2] at h
        cases h
        exact .cons (val_ok r h1 q) (vals_ok r h2 q2)
@[simp ↓] def mCB (op : List D → Option DR) (ms : Mo (List E1)) (st : MS) : Rs EX := (ms st).then fun es s => opt (((vals es s).bind op).map DR.x) s
theorem cb_go {op : List D → Option DR} {r : List V → Hp → VK → Prop} {ms : Mo (List E1)} {σ : Sg} {H : Hp} {Q : VK}
    (hr : ∀ (B : Bs) (σ : Sg) (H : Hp) (st : MS) (fs : Fs) (vs : List V) (ds : List D) (d : DR) (Q : VK), Rel c B σ H st fs → Paired (fun d v => VD c.n B H d v) ds vs → op ds = some d → KX c σ B fs Q d.x st → r vs H Q)
    (h : rX c W (mCB op ms) σ H Q) : ∃ B st fs, Rel c B σ H st fs ∧ Post c W σ B (ms st) fun es st => ∀ B' H' vs, B.le B' → Rel c B' σ H' st fs → Paired (fun e v => IsE c.n B' σ v e) es vs → r vs H' Q := by
  obtain ⟨B, st, fs, R, p⟩ := h
  refine ⟨B, st, fs, R, (Post.bind p).up (.refl B) fun es s k B1 H1 vs l1 r1 i1 => ?_⟩
  cases q : vals es s with
  | none => rw [q] at k; exact k.elim
  | some ds =>
    rw [q] at k
    cases q2 : op ds with
    | none => simp only [Option.bind_some, q2, Option.map_none] at k; exact k.elim
    | some d =>
      simp only [Option.bind_some, q2, Option.map_some] at k
      exact hr B1 σ H1 s fs vs ds d Q r1 (vals_ok r1 i1 q) q2 (KX.up k l1)
theorem ge_callB {id : String} {x : Str} {p : Pos} {op : List D → Option DR} {ms : Mo (List E1)} (ho : OkC X c (.builtin id) op) (hg : Gl X x) (hm : X.mg x = none) (hv : bootBuiltins x = some (.builtin id)) (ha : VE X c W (e :: es) ms) (hn : x ≠ "__name__" := by decide) (hdb : (x == ("__debug__" : Str)) = false := by decide)
    (he : starEach (e :: es) X.env = (false, eval e X.env) :: starEach es X.env := by rfl) (hpl : (backTo pos (starEach es X.env)).any (·.1) = false := by rfl) : GE X c W (.Call (.Name x p) (e :: es) [] pos) (mCB op ms) := by
  obtain ⟨r, h1, h2⟩ := ho
  exact ⟨peImp (pe_callB h1 hg hm hv ha.pa hn hdb he hpl) fun σ H Q h => cb_go h2 h⟩
theorem ge_callTy {id : String} {x : Str} {p : Pos} {op : List D → Option DR} {ms : Mo (List E1)} (ho : OkC X c (.type id) op) (hg : Gl X x) (hm : X.mg x = none) (hv : bootBuiltins x = some (.type id)) (ha : VE X c W (e :: es) ms) (hn : x ≠ "__name__" := by decide) (hdb : (x == ("__debug__" : Str)) = false := by decide)
    (he : starEach (e :: es) X.env = (false, eval e X.env) :: starEach es X.env := by rfl) (hpl : (backTo pos (starEach es X.env)).any (·.1) = false := by rfl) : GE X c W (.Call (.Name x p) (e :: es) [] pos) (mCB op ms) := by
  obtain ⟨r, h1, h2⟩ := ho
  exact ⟨peImp (pe_callTy h1 hg hm hv ha.pa hn hdb he hpl) fun σ H Q h => cb_go h2 h⟩
/-! ### defs -/
inductive RV where
  | d (x : D) | f (fr : Fr)
inductive Rc where
  | ok (r : RV) (g : G) | ex (c : Str) (as : List D) (g : G) | bad
abbrev Fm := List D → G → Rc
def RetOk (n : Kn) (H0 : Hp) (B' : Bs) (H' : Hp) (v : V) : RV → Prop
  | .d x => IsD n B' x v
  | .f fr => ∃ a, v = .ref a ∧ FrOk n B' H' a fr ∧ B'.H0 a = none ∧ (∀ k, B'.A k ≠ some a) ∧ H0 a = none
/-- a def's promise: it does as its mirror -/
def SpF (n : Kn) (np : Nat) (F : Fm) : Sp := fun vs H Q E => vs.length = np ∧ ∃ B g ds, RelL n B H g ∧ IsDs n B ds vs ∧ (match F ds g with
  | .ok r g' => ∀ B' H' v, Ext B H B' H' → RelL n B' H' g' → RetOk n H B' H' v r → Q v H'
  | .ex x as g' => ∀ B' H' C d, Ext B H B' H' → RelL n B' H' g' → n.mg x = some (.ref C) → ExD n B' H' as d → E (.ref C) d H'
  | .bad => False)
@[simp ↓] def rcX (st : MS) : Rc → Rs EX
  | .ok (.d x) g => .ok (.e (.d x)) { st with g := g }
  | .ok (.f fr) g => .ok (.f fr) { st with g := g }
  | .ex x as g => .ex x as { st with g := g }
  | .bad => .bad
@[simp ↓] def mCall (F : Fm) (ms : Mo (List D)) (st : MS) : Rs EX := (ms st).then fun ds s => rcX s (F ds s.g)
/-- what is known of a def that is called -/
structure FnK (X : Cx) (c : Cn) (x : Str) (np : Nat) (F : Fm) : Prop where
  ex : ∃ (f : Addr) (fd : FuncData) (ps : List Str) (k : Nat), ps.length = np ∧ FnOk X.prog X.w X.K X.mg X.base (L2.CX X.prog X.w) k f fd ps (SpF ⟨X.K, X.mg, c.n.T⟩ np F) ∧ Room k X.A ∧ X.mg x = some (.ref f) ∧ PySem.W.keepIn X.K (.ref f) = true ∧ Binds X.K fd ps []
theorem call_go [g : Gd X c] {np : Nat} {F : Fm} {B : Bs} {σ : Sg} {H : Hp} {s : MS} {fs : Fs} {vs : List V} {ds : List D} {Q : VK} (r : Rel c B σ H s fs) (i : IsDs c.n B ds vs) (hl : ds.length = np) (p : Post c W σ B (rcX s (F ds s.g)) (KX c σ B fs Q)) :
    SpF ⟨X.K, X.mg, c.n.T⟩ np F vs H Q (L2.WE W σ) := by
  have hn := g.n
  refine ⟨by rw [i.length]; exact hl, B, s.g, ds, by rw [← hn]; exact r.lv, by rw [← hn]; exact i, ?_⟩
  cases q : F ds s.g with
  | bad => rw [q] at p; exact p
  | ex x as g' =>
    rw [q] at p
    intro B' H' C d x1 l1 hc hd
    rw [← hn] at l1 hd
    exact p B' H' C d x1.le (r.go x1 l1).drop (by rw [hn]; exact hc) hd
  | ok rv g' =>
    rw [q] at p
    intro B' H' v x1 l1 hv
    rw [← hn] at l1 hv
    cases rv with
    | d x => exact p B' H' v x1.le (r.go x1 l1) hv
    | f fr =>
      obtain ⟨a, rfl, h1, h2, h3, h4⟩ := hv
      refine p B' H' a x1.le ?_
      have q := r.go x1 l1
      obtain ⟨ad, τ, g1, g2, g3⟩ := r.sl
      obtain ⟨o, ho⟩ := h1.there
      obtain ⟨ad', τ', g1', g2', g3'⟩ := q.sl
      have nfree : ∀ b, Free c B H b → Free c B' H' b ∧ b ≠ a ∧ ∀ o, Own o → H b = some o → H' b = some o := fun b f => ⟨(r.nfree x1 f).1, fun e => f.th (by rw [e]; exact h4), (r.nfree x1 f).2⟩
      refine ⟨q.ext, q.lv, q.len, ⟨ad, τ, g1, fun i b h => ?_, fun i sv h => ?_⟩, fun z hz => ?_, List.nodup_cons.mpr ⟨fun z => ?_, r.fnd⟩⟩
      · obtain ⟨f1, f2⟩ := g2 i b h
        refine ⟨(nfree b f1).1, fun z hz => ?_⟩
        rcases List.mem_cons.mp hz with rfl | hz
        · exact fun e => (nfree b f1).2.1 e.symm
        · exact f2 z hz
      · obtain ⟨v, e, k⟩ := g3 i sv h
        refine ⟨v, e, ?_⟩
        cases sv with
        | d y => exact IsD.mono x1.le y v k
        | m f' =>
          obtain ⟨b, e1, e2, e3⟩ := k
          exact ⟨b, e1, e2, e3.mono x1.le (nfree b (g2 i b e1).1).2.2⟩
      · rcases List.mem_cons.mp hz with rfl | hz
        · exact ⟨⟨h2, h3, r.ext.none h4, h1.own⟩, h1⟩
        · exact q.fr z hz
      · obtain ⟨y, hy, e⟩ := List.mem_map.mp z
        exact (nfree y.1 (r.fr y hy).1).2.1 e
theorem ge_call [g : Gd X c] [t : Tk X W] {x : Str} {p : Pos} {np : Nat} {F : Fm} {ms : Mo (List D)} (K : FnK X c x np F) (hg : Gl X x) (ha : AE X c W (e :: es) ms) (hl : (e :: es).length = np) (hdb : (x == ("__debug__" : Str)) = false := by decide)
    (he : starEach (e :: es) X.env = (false, eval e X.env) :: starEach es X.env := by rfl) (hpl : (backTo pos (starEach es X.env)).any (·.1) = false := by rfl) (hms : ∀ st ds s, ms st = .ok ds s → ds.length = np) :
    GE X c W (.Call (.Name x p) (e :: es) [] pos) (mCall F ms) := by
  obtain ⟨f, fd, ps, k, h1, h2, h3, h4, h5, h6⟩ := K.ex
  refine ⟨peImp (pe_callS (E := L2.WE W) h2 h3 hg h4 h5 h6 (L2.passAt t.tk) ha.pa hdb he hpl) fun σ H Q ⟨B, st, fs, r, p⟩ => ⟨B, st, fs, r, ?_⟩⟩
  have p' := Post.bind p
  cases q : ms st with
  | bad => rw [q] at p'; exact p'
  | ex x as s => rw [q] at p'; exact p'
  | ok ds s =>
    rw [q] at p'
    exact fun B1 H1 vs l1 r1 i1 => call_go r1 i1 (hms st ds s q) (Post.up p' l1 fun _ _ z => z.up l1)
theorem ge_call0 [g : Gd X c] [t : Tk X W] {x : Str} {p : Pos} {F : Fm} (K : FnK X c x 0 F) (hg : Gl X x) (hdb : (x == ("__debug__" : Str)) = false := by decide) :
    GE X c W (.Call (.Name x p) [] [] pos) (mCall F mNil) := by
  obtain ⟨f, fd, ps, k, h1, h2, h3, h4, h5, h6⟩ := K.ex
  refine ⟨⟨fun pins s σ H Q I ⟨B, st, fs, r, p⟩ => ?_⟩⟩
  refine wpAny_Call_Name_kw (ld_glob I hg h4 ?_ hdb)
  exact PySem.W.callWith_K0 I.kIn h5 (run_fnS (E := L2.WE W) (us := []) h2 h3 h6 (L2.passAt t.tk σ) I .nil (call_go (np := 0) (ds := []) r rfl rfl p))
theorem mCons_len {m : Mo D} {ms : Mo (List D)} {n : Nat} (h : ∀ st ds s, ms st = .ok ds s → ds.length = n) : ∀ st ds s, mCons m ms st = .ok ds s → ds.length = n + 1 := fun st ds s q => by
  unfold mCons at q
  cases q1 : m st with
  | bad => rw [q1] at q; cases q
  | ex x as s => rw [q1] at q; cases q
  | ok d s1 =>
    rw [q1] at q
    simp only [then_ok] at q
    cases q2 : ms s1 with
    | bad => rw [q2] at q; cases q
    | ex x as s => rw [q2] at q; cases q
    | ok ds' s2 =>
      rw [q2] at q
      simp only [then_ok] at q
      cases q
      simp [h _ _ _ q2]
theorem mNil_len : ∀ st ds s, mNil st = .ok ds s → ds.length = 0 := fun st ds s q => by
  cases q
  rfl
end
/-! ### statements -/
inductive RSt where
  | nx (st : MS) | rt (r : RV) (g : G) | bk (st : MS) | ct (st : MS) | ex (c : Str) (as : List D) (st : MS) | bad
abbrev MoS := MS → RSt
def PostS (c : Cn) (W : WX) (B : Bs) (r : RSt) (D : Ends) : Prop := match r with
  | .nx st => ∀ B' σ' H', B.le B' → Rel c B' σ' H' st [] → D.nx σ' H'
  | .bk st => ∀ B' σ' H', B.le B' → Rel c B' σ' H' st [] → D.bk σ' H'
  | .ct st => ∀ B' σ' H', B.le B' → Rel c B' σ' H' st [] → D.ct σ' H'
  | .rt r g => ∀ B' H' v, Ext c.Bst c.Hst B' H' → RelL c.n B' H' g → RetOk c.n c.Hst B' H' v r → D.rt v H'
  | .ex x as st => ∀ B' σ' H' C d, B.le B' → Rel c B' σ' H' st [] → c.n.mg x = some (.ref C) → ExD c.n B' H' as d → W (.ref C) d σ' H'
  | .bad => False
def rS (c : Cn) (W : WX) (m : MoS) : TS := fun D σ H => ∃ B st, Rel c B σ H st [] ∧ PostS c W B (m st) D
structure SE (X : Cx) (c : Cn) (W : WX) (s : Stmt) (m : MoS) : Prop where
  ps : PS X s (rS c W m)
structure SSE (X : Cx) (c : Cn) (W : WX) (s : List Stmt) (m : MoS) : Prop where
  ps : PSs X s (rS c W m)
theorem psImp {X : Cx} {s : Stmt} {t t' : TS} (h : PS X s t) (f : ∀ D σ H, t' D σ H → t D σ H) : PS X s t' := ⟨fun pins st σ H D I q => h.run pins st σ H D I (f D σ H q)⟩
theorem pssImp {X : Cx} {s : List Stmt} {t t' : TS} (h : PSs X s t) (f : ∀ D σ H, t' D σ H → t D σ H) : PSs X s t' := ⟨fun pins st σ H D I q => h.run pins st σ H D I (f D σ H q)⟩
theorem PostS.up {c : Cn} {W : WX} {B B' : Bs} {r : RSt} {D D' : Ends} (h : PostS c W B r D) (e : B.le B') (h1 : ∀ σ H, D.nx σ H → D'.nx σ H := by exact fun _ _ z => z) (h2 : ∀ σ H, D.bk σ H → D'.bk σ H := by exact fun _ _ z => z) (h3 : ∀ σ H, D.ct σ H → D'.ct σ H := by exact fun _ _ z => z) (h4 : ∀ σ H, D.rt σ H → D'.rt σ H := by exact fun _ _ z => z) : PostS c W B' r D' := by
  cases r with
  | nx st => exact fun B2 σ H l r => h1 _ _ (h B2 σ H (e.trans l) r)
  | bk st => exact fun B2 σ H l r => h2 _ _ (h B2 σ H (e.trans l) r)
  | ct st => exact fun B2 σ H l r => h3 _ _ (h B2 σ H (e.trans l) r)
  | rt r g => exact fun B2 H v x l q => h4 _ _ (h B2 H v x l q)
  | ex x as st => exact fun B2 σ H C d l => h B2 σ H C d (e.trans l)
  | bad => exact h
@[simp ↓] def Rs.st {α : Type} (r : Rs α) (f : α → MS → RSt) : RSt := match r with
  | .ok a st => f a st
  | .ex c as st => .ex c as st
  | .bad => .bad
@[simp] theorem st_ok {α : Type} (a : α) (st : MS) (f : α → MS → RSt) : (Rs.ok a st).st f = f a st := rfl
@[simp] theorem st_ex {α : Type} (c : Str) (as : List D) (st : MS) (f : α → MS → RSt) : (Rs.ex c as st : Rs α).st f = .ex c as st := rfl
@[simp] theorem st_bad {α : Type} (f : α → MS → RSt) : (Rs.bad : Rs α).st f = .bad := rfl
@[simp ↓] def RSt.seq (r : RSt) (f : MS → RSt) : RSt := match r with
  | .nx st => f st
  | r => r
@[simp] theorem seq_nx (st : MS) (f : MS → RSt) : (RSt.nx st).seq f = f st := rfl
@[simp] theorem seq_rt (r : RV) (g : G) (f : MS → RSt) : (RSt.rt r g).seq f = .rt r g := rfl
@[simp] theorem seq_bk (st : MS) (f : MS → RSt) : (RSt.bk st).seq f = .bk st := rfl
@[simp] theorem seq_ct (st : MS) (f : MS → RSt) : (RSt.ct st).seq f = .ct st := rfl
@[simp] theorem seq_ex (c : Str) (as : List D) (st : MS) (f : MS → RSt) : (RSt.ex c as st).seq f = .ex c as st := rfl
@[simp] theorem seq_bad (f : MS → RSt) : RSt.bad.seq f = .bad := rfl
theorem PostS.bind {α : Type} {c : Cn} {W : WX} {σ : Sg} {B : Bs} {r : Rs α} {f : α → MS → RSt} {D : Ends} (h : PostS c W B (r.st f) D) : Post c W σ B r fun a st => PostS c W B (f a st) D := by
  cases r with
  | ok a st => exact h
  | ex x as st => exact fun B' H' C d => h B' σ H' C d
  | bad => exact h
section
variable {X : Cx} {c : Cn} {W : WX} {e a b : Expr} {es : List Expr} {pos : Pos} {s : Stmt} {ss : List Stmt}
@[simp ↓] def mSkip (st : MS) : RSt := .nx st
@[simp ↓] def mSeq (m n : MoS) (st : MS) : RSt := (m st).seq n
theorem sse_nil : SSE X c W [] mSkip := ⟨pssImp pss_nil fun D σ H ⟨B, st, r, p⟩ => p B σ H (.refl B) r⟩
theorem seq_go {m n : MoS} {D : Ends} {σ : Sg} {H : Hp} {t : TS} (h : rS c W (mSeq m n) D σ H) : rS c W m { D with nx := rS c W n D } σ H := by
  obtain ⟨B, st, r, p⟩ := h
  refine ⟨B, st, r, ?_⟩
  unfold mSeq at p
  cases q : m st with
  | nx st' =>
    rw [q] at p
    exact fun B' σ' H' l r' => ⟨B', st', r', PostS.up (show PostS c W B (n st') D from p) l⟩
  | bk st' => rw [q] at p; exact p
  | ct st' => rw [q] at p; exact p
  | rt r g => rw [q] at p; exact p
  | ex x as st' => rw [q] at p; exact p
  | bad => rw [q] at p; exact p
theorem sse_cons {m n : MoS} (h : SE X c W s m) (h2 : SSE X c W ss n) : SSE X c W (s :: ss) (mSeq m n) := ⟨pssImp (pss_cons h.ps h2.ps) fun D σ H q => seq_go (t := fun _ _ _ => True) q⟩
theorem sse_one {m : MoS} (h : SE X c W s m) : SSE X c W [s] m := ⟨pss_one h.ps⟩
@[simp ↓] def mBreak (st : MS) : RSt := .bk st
@[simp ↓] def mCont (st : MS) : RSt := .ct st
@[simp ↓] def mBad (_ : MS) : RSt := .bad
theorem se_pass : SE X c W (.Pass pos) mSkip := ⟨psImp ps_pass fun D σ H ⟨B, st, r, p⟩ => p B σ H (.refl B) r⟩
theorem se_break : SE X c W (.Break pos) mBreak := ⟨psImp ps_break fun D σ H ⟨B, st, r, p⟩ => p B σ H (.refl B) r⟩
theorem se_cont : SE X c W (.Continue pos) mCont := ⟨psImp ps_continue fun D σ H ⟨B, st, r, p⟩ => p B σ H (.refl B) r⟩
/-- what is never come to -/
theorem se_bad : SE X c W s mBad := ⟨psImp ps_never fun D σ H ⟨B, st, r, p⟩ => p⟩
@[simp ↓] def mIfS (mt : Mo Bool) (m n : MoS) (st : MS) : RSt := (mt st).st fun b s => if b then m s else n s
theorem se_if {t : Expr} {xs ys : List Stmt} {mt : Mo Bool} {m n : MoS} (ht : TEs X c W t mt) (h1 : SSE X c W xs m) (h2 : SSE X c W ys n) : SE X c W (.If t xs ys pos) (mIfS mt m n) :=
  ⟨psImp (ps_if ht.pt h1.ps h2.ps) fun D σ H ⟨B, st, r, p⟩ => ⟨B, st, [], r, (PostS.bind p).up (.refl B) fun b s k B1 H1 l1 r1 => by
    cases b with
    | true =>
      rw [if_pos rfl]
      exact ⟨B1, s, r1, PostS.up (show PostS c W B (m s) D from k) l1⟩
    | false =>
      rw [if_neg Bool.false_ne_true]
      exact ⟨B1, s, r1, PostS.up (show PostS c W B (n s) D from k) l1⟩⟩⟩
@[simp ↓] def mDrop (m : Mo EX) (st : MS) : RSt := (m st).st fun _ s => .nx s
theorem se_expr {m : Mo EX} (h : GE X c W e m) (hs : swapsWith e none pos.line X.env = pure false := by rfl) : SE X c W (.Expr e pos) (mDrop m) :=
  ⟨psImp (ps_expr h.pe hs) fun D σ H ⟨B, st, r, p⟩ => ⟨B, st, [], r, (PostS.bind p).up (.refl B) fun x s k => by
    cases x with
    | e e => exact fun B1 H1 v l1 r1 i1 => k B1 σ H1 l1 r1
    | f fr => exact fun B1 H1 a l1 r1 => k B1 σ H1 l1 r1.drop⟩⟩
@[simp ↓] def retX : EX → MS → RSt
  | .e (.d x), s => .rt (.d x) s.g
  | .f fr, s => .rt (.f fr) s.g
  | .e (.s i), s => match s.sl[i]? with
    | some (some (.d x)) => .rt (.d x) s.g
    | some (some (.m f)) => .rt (.f f) s.g
    | _ => .bad
@[simp ↓] def mRet (m : Mo EX) (st : MS) : RSt := (m st).st retX
theorem ret_f {B : Bs} {σ : Sg} {H : Hp} {s : MS} {a : Addr} {f : Fr} {fs : Fs} (r : Rel c B σ H s ((a, f) :: fs)) : RetOk c.n c.Hst B H (.ref a) (.f f) := by
  obtain ⟨f1, f2⟩ := r.fr _ List.mem_cons_self
  exact ⟨a, rfl, f2, f1.h0, f1.nl, f1.hs⟩
theorem se_ret {m : Mo EX} (h : GE X c W e m) : SE X c W (.Return (some e) pos) (mRet m) :=
  ⟨psImp (ps_ret h.pe) fun D σ H ⟨B, st, r, p⟩ => ⟨B, st, [], r, (PostS.bind p).up (.refl B) fun x s k => by
    cases x with
    | f fr => exact fun B1 H1 a l1 r1 => k B1 H1 _ r1.ext r1.lv (ret_f r1)
    | e e =>
      intro B1 H1 v l1 r1 i1
      cases e with
      | d x => exact k B1 H1 _ r1.ext r1.lv i1
      | s i =>
        have i1' : σ[i]? = some (some v) := i1
        cases q : s.sl[i]? with
        | none => simp only [retX, q] at k; exact k.elim
        | some o =>
          cases o with
          | none => simp only [retX, q] at k; exact k.elim
          | some sv =>
            cases sv with
            | d y =>
              simp only [retX, q] at k
              exact k B1 H1 _ r1.ext r1.lv (r1.slotD q i1')
            | m f =>
              simp only [retX, q] at k
              obtain ⟨a, rfl, r2⟩ := r1.free q i1'
              exact k B1 H1 _ r2.ext r2.lv (ret_f r2)⟩⟩
@[simp ↓] def mRetN (st : MS) : RSt := .rt (.d .non) st.g
theorem se_retN : SE X c W (.Return none pos) mRetN := ⟨psImp ps_retN fun D σ H ⟨B, st, r, p⟩ => p B H _ r.ext r.lv rfl⟩
/-- name = value -/
@[simp ↓] def putX (i : Nat) : EX → MS → RSt
  | .f fr, s => .nx { s with sl := s.sl.set i (some (.m fr)) }
  | .e e, s => (keepE e s).st fun x s => .nx { s with sl := s.sl.set i (some (.d x)) }
@[simp ↓] def mSet (i : Nat) (m : Mo EX) (st : MS) : RSt := (m st).st (putX i)
theorem keepE_pt {B : Bs} {σ : Sg} {H : Hp} {st : MS} {fs : Fs} {e : E1} {v : V} {x : D} {s : MS} (r : Rel c B σ H st fs) (h : IsE c.n B σ v e) (p : keepE e st = .ok x s) : ∃ B', B.le B' ∧ Rel c B' σ H s fs ∧ IsD c.n B' x v := by
  have q := keepE_ok (W := fun _ _ _ _ => True) (Q := fun v' H' => v' = v ∧ H' = H → ∃ B', B.le B' ∧ Rel c B' σ H s fs ∧ IsD c.n B' x v) r h (by
    rw [p]
    exact fun B' H' v' l r' i ⟨e1, e2⟩ => ⟨B', l, by rw [← e2]; exact r', by rw [← e1]; exact i⟩)
  exact q ⟨rfl, rfl⟩
theorem keepE_ex {e : E1} {st : MS} {x : Str} {as : List D} {s : MS} : keepE e st ≠ .ex x as s := fun p => by
  cases e with
  | d y => cases p
  | s i =>
    cases q : st.sl[i]? with
    | none => simp [keepE, q] at p
    | some o =>
      cases o with
      | none => simp [keepE, q] at p
      | some sv => cases sv <;> simp [keepE, q] at p
theorem put_go {m : Mo EX} {i : Nat} {D : Ends} {σ : Sg} {H : Hp} (hi : i < c.nn) (h : rS c W (mSet i m) D σ H) : rX c W m σ H fun x H1 => D.nx (σ.set i (some x)) H1 := by
  obtain ⟨B, st, r, p⟩ := h
  refine ⟨B, st, [], r, (PostS.bind p).up (.refl B) fun x s k => ?_⟩
  cases x with
  | f fr => exact fun B1 H1 a l1 r1 => k B1 _ H1 l1 (r1.storeF (by rw [r1.len]; exact hi))
  | e e =>
    intro B1 H1 v l1 r1 i1
    cases q : keepE e s with
    | ok x s' =>
      obtain ⟨B2, l2, r2, hd⟩ := keepE_pt r1 i1 q
      simp only [putX, q, st_ok] at k
      exact k B2 _ H1 (l1.trans l2) (r2.store (by rw [r2.len]; exact hi) hd)
    | ex x as s' => exact absurd q keepE_ex
    | bad =>
      simp only [putX, q, st_bad] at k
      exact k.elim
theorem se_set [g : Gd X c] (i : Nat) {x : Str} {pos' : Pos} {m : Mo EX} (hi : X.N[i]? = some x) (hx : Loc X.env.scope x) (h : GE X c W e m) (hs : swapsWith e (some (.Name x pos')) pos.line X.env = pure false := by rfl)
    (hf : X.fn x = true ∨ X.env.scope.names.lookup x = some .local := by first | exact .inl rfl | exact .inr rfl | assumption) : SE X c W (.Assign [.Name x pos'] e pos) (mSet i m) :=
  ⟨psImp (ps_set g.nd hi hx h.pe hs hf) fun D σ H q => put_go (by rw [g.nn]; exact (List.getElem?_eq_some_iff.mp hi).1) q⟩
end
/-! ### a def from its body -/
@[simp] def startS (nn : Nat) (ds : List D) : List (Option SV) := ds.map (fun d => some (.d d)) ++ List.replicate (nn - ds.length) none
@[simp ↓] def fnM (nn : Nat) (m : MoS) (ds : List D) (g : G) : Rc := match m ⟨startS nn ds, g⟩ with
  | .rt r g' => .ok r g'
  | .nx st => .ok (.d .non) st.g
  | .ex x as st => .ex x as st.g
  | _ => .bad
theorem startS_get {nn : Nat} {ds : List D} {i : Nat} {sv : SV} (h : (startS nn ds)[i]? = some (some sv)) : ∃ d, ds[i]? = some d ∧ sv = .d d := by
  unfold startS at h
  by_cases hi : i < (ds.map fun d => some (SV.d d)).length
  · rw [List.getElem?_append_left hi, List.getElem?_map] at h
    cases q : ds[i]? with
    | none => rw [q] at h; cases h
    | some d =>
      rw [q] at h
      simp at h
      exact ⟨d, rfl, h.symm⟩
  · rw [List.getElem?_append_right (by omega)] at h
    have := List.mem_of_getElem? h
    rw [List.mem_replicate] at this
    cases this.2
theorem rel_start {n : Kn} {N : List Str} {B : Bs} {H : Hp} {g : G} {ds : List D} {vs : List V} (l : RelL n B H g) (i : IsDs n B ds vs) (hl : vs.length ≤ N.length) : Rel ⟨n, N.length, B, H⟩ B (L2.start N vs) H ⟨startS N.length ds, g⟩ [] := by
  refine ⟨.refl B H, l, ?_, ⟨fun _ => none, [], fun _ _ _ h => (nomatch h), fun _ _ h => (nomatch h), fun j sv h => ?_⟩, fun p hp => absurd hp (by simp), by simp⟩
  · unfold L2.start
    simp
    omega
  · obtain ⟨d, hd, rfl⟩ := startS_get h
    obtain ⟨v, hv, hi⟩ := i.get hd
    refine ⟨v, ?_, hi⟩
    rw [List.append_nil]
    unfold L2.start
    rw [List.getElem?_append_left (by rw [List.length_map]; exact (List.getElem?_eq_some_iff.mp hv).1), List.getElem?_map, hv]
    rfl
/-- what is wished of an exception in a def's body -/
abbrev WD (E : XK) : WX := fun cls d _ H => E cls d H
abbrev cxD (P : Program) (w : World) (K : PySem.W.Frag) (mg : Str → Option Value) (base : Heap) (N : List Str) (qual : Str) (sc : Scope) (f : Addr) (cdv : Value) (A : Around) (outer : List Env) (s : Shared) (H : Hp) (E : XK) : Cx :=
  cxOf (L2.CX P w) P w K mg base N qual sc f cdv A outer s H E
theorem fn_ok {T : List (Addr × Str)} {P : Program} {w : World} {K : PySem.W.Frag} {mg : Str → Option Value} {base : Heap} {x qual : Str} {st : Stmt} {f : Addr} {fd : FuncData} {N ps : List Str} {k : Nat} {m : MoS}
    (F : Fun K x qual st f fd) (S : FnScope N ps (defScope st)) (hps : ps.length ≤ N.length)
    (body : ∀ (cdv : Value) (A : Around) (outer : List Env) (s : Shared) (H : Hp) (B : Bs) (E : XK), Room k (A.deeper (envOfC qual (defScope st) s.heap.objs.size f cdv)) →
      SSE (cxD P w K mg base N qual (defScope st) f cdv A outer s H E) ⟨⟨K, mg, T⟩, N.length, B, H⟩ (WD E) (defBody st) m) :
    FnOk P w K mg base (L2.CX P w) (k + 1) f fd ps (SpF ⟨K, mg, T⟩ ps.length (fnM N.length m)) := by
  refine F.okX S (fun vs H Q E h => h.1) fun cdv A outer s H vs Q E hr h => ?_
  obtain ⟨hl, B, g, ds, l, i, h⟩ := h
  refine ⟨_, (body cdv A outer s H B E hr).ps, B, ⟨startS N.length ds, g⟩, rel_start l i (by rw [hl]; exact hps), ?_⟩
  unfold fnM at h
  cases q : m ⟨startS N.length ds, g⟩ with
  | rt r g' => rw [q] at h; exact fun B' H' v x l' hv => h B' H' v x l' hv
  | nx st => rw [q] at h; exact fun B' σ' H' le r => h B' H' .non r.ext r.lv rfl
  | ex x as st => rw [q] at h; exact fun B' σ' H' C d le r hc hd => h B' H' C d r.ext r.lv hc hd
  | bk st => rw [q] at h; exact h.elim
  | ct st => rw [q] at h; exact h.elim
  | bad => rw [q] at h; exact h.elim
instance gdD {T : List (Addr × Str)} {P : Program} {w : World} {K : PySem.W.Frag} {mg : Str → Option Value} {base : Heap} {N : List Str} {qual : Str} {sc : Scope} {f : Addr} {cdv : Value} {A : Around} {outer : List Env} {s : Shared} {H : Hp} {E : XK} {B : Bs} {Hs : Hp} [nd : Fact' N.Nodup] :
    Gd (cxD P w K mg base N qual sc f cdv A outer s H E) ⟨⟨K, mg, T⟩, N.length, B, Hs⟩ := ⟨rfl, rfl, nd.out, rfl⟩
end Y
namespace Y
open PySem PySem.Spec PyProof.Rows L2
/-- a fresh thing is written -/
theorem Rel.writeF {c : Cn} {B : Bs} {σ : Sg} {H : Hp} {st : MS} {a : Addr} {o : HO} {f f' : Fr} {fs : Fs} (r : Rel c B σ H st ((a, f) :: fs)) (hf : FrOk c.n B (upd H a o) a f') : Rel c B σ (upd H a o) st ((a, f') :: fs) := by
  obtain ⟨fa, _⟩ := r.fr (a, f) List.mem_cons_self
  have nd : a ∉ fs.map (·.1) ∧ (fs.map (·.1)).Nodup := List.nodup_cons.mp r.fnd
  have keep : ∀ b u, b ≠ a → H b = some u → upd H a o b = some u := fun b u hb h => by rw [upd_ne hb]; exact h
  have th : ∀ b, H b ≠ none → upd H a o b ≠ none := fun b h => by
    by_cases hb : b = a
    · rw [hb, upd_same]; simp
    · rw [upd_ne hb]; exact h
  have hw : Own o := by
    obtain ⟨o', e, w⟩ := hf.own
    rw [upd_same] at e
    cases e
    exact w
  obtain ⟨oa, hoa, wa⟩ := fa.ow
  have nfree : ∀ b, Free c B H b → Free c B (upd H a o) b := fun b f1 => ⟨f1.h0, f1.nl, f1.hs, by
    by_cases hb : b = a
    · exact ⟨o, by rw [hb]; exact upd_same, hw⟩
    · rw [upd_ne hb]; exact f1.ow⟩
  have tup : ∀ b xs, upd H a o b = some (.tup xs) → c.Hst b = none ∨ c.Hst b = some (.tup xs) := fun b xs h => by
    by_cases hb : b = a
    · rw [hb, upd_same] at h
      cases h
      exact hw.elim
    · rw [upd_ne hb] at h
      exact r.ext.tu b xs h
  refine ⟨⟨r.ext.le, r.ext.n0, r.ext.nl, fun b u h w z hk => ?_, fun b h => th b (r.ext.tr b h), tup⟩, ⟨tabs_own r.lv.tb hoa wa, fun b u h => keep b u (ne_of_none h fa.h0) (r.lv.sub b u h), r.lv.inj, r.lv.dom, fun k f' h => ?_⟩, r.len, ?_, fun p hp => ?_, List.nodup_cons.mpr nd⟩
  · exact keep b u (fun e => by rw [e, fa.hs] at h; cases h) (r.ext.fr b u h w z hk)
  · obtain ⟨b, h1, h2, h3⟩ := r.lv.ob k f' h
    have hb : b ≠ a := fun e => fa.nl k (by rw [← e]; exact h1)
    exact ⟨b, h1, h2, h3.mono (.refl B) fun u _ hu => keep b u hb hu⟩
  · obtain ⟨ad, τ, h1, h2, h3⟩ := r.sl
    refine ⟨ad, τ, h1, fun i b h => ⟨nfree b (h2 i b h).1, fun p hp => ?_⟩, fun i sv h => ?_⟩
    · rcases List.mem_cons.mp hp with rfl | hp
      · exact (h2 i b h).2 (a, f) List.mem_cons_self
      · exact (h2 i b h).2 p (List.mem_cons_of_mem _ hp)
    · obtain ⟨v, e, k⟩ := h3 i sv h
      refine ⟨v, e, ?_⟩
      cases sv with
      | d x => exact k
      | m f' =>
        obtain ⟨b, e1, e2, e3⟩ := k
        have hb : b ≠ a := fun e => (h2 i b e1).2 _ List.mem_cons_self e.symm
        exact ⟨b, e1, e2, e3.mono (.refl B) fun u _ hu => keep b u hb hu⟩
  · rcases List.mem_cons.mp hp with rfl | hp
    · exact ⟨nfree _ fa, hf⟩
    · obtain ⟨g1, g2⟩ := r.fr p (List.mem_cons_of_mem _ hp)
      have hb : p.1 ≠ a := fun e => nd.1 (by rw [← e]; exact List.mem_map_of_mem hp)
      exact ⟨nfree _ g1, g2.mono (.refl B) fun u _ hu => keep p.1 u hb hu⟩
/-- a fresh thing that a slot's name bears is the slot's own -/
theorem Rel.putback {c : Cn} {B : Bs} {σ : Sg} {H : Hp} {st : MS} {i : Nat} {a : Addr} {f : Fr} {fs : Fs} (r : Rel c B σ H st ((a, f) :: fs)) (hv : σ[i]? = some (some (.ref a))) : Rel c B σ H { st with sl := st.sl.set i (some (.m f)) } fs := by
  have hi := (List.getElem?_eq_some_iff.mp hv).1
  have q := r.storeF (i := i) hi
  have e : σ.set i (some (.ref a)) = σ := by
    obtain ⟨h1, h2⟩ := List.getElem?_eq_some_iff.mp hv
    rw [← h2]
    exact List.set_getElem_self h1
  rw [e] at q
  exact q
/-! ### what is walked -/
def WalkD (c : Cn) (B : Bs) (items : List D) (J : It) : Prop := ∀ (i : Nat) (B2 : Bs) (σ2 : Sg) (H2 : Hp) (s2 : MS) (fs2 : Fs), B.le B2 → Rel c B2 σ2 H2 s2 fs2 →
  (∀ d, items[i]? = some d → J.go i H2 ∧ ∀ x H3, J.yld i H2 x H3 → ∃ B3, B2.le B3 ∧ Rel c B3 σ2 H3 s2 fs2 ∧ IsD c.n B3 d x) ∧ (items.length = i → J.stop i H2)
def rI (c : Cn) (W : WX) (m : Mo (List D)) : TI := fun σ H R => ∃ B st fs, Rel c B σ H st fs ∧ Post c W σ B (m st) fun items s => ∀ B' H' J, B.le B' → Rel c B' σ H' s fs → WalkD c B' items J → R J H'
structure IE (X : Cx) (c : Cn) (W : WX) (tg iter : Expr) (m : Mo (List D)) : Prop where
  pi : PI X tg iter (rI c W m)
theorem piImp {X : Cx} {tg iter : Expr} {t t' : TI} (h : PI X tg iter t) (f : ∀ σ H R, t' σ H R → t σ H R) : PI X tg iter t' := ⟨fun pins s σ H R I q => h.run pins s σ H R I (f σ H R q)⟩
section
variable {X : Cx} {c : Cn} {W : WX} {tg e a b : Expr} {es : List Expr} {pos : Pos}
theorem walk_list [g : Gd X c] {B : Bs} {a : Addr} {vs : List V} {ds : List D} (h : Rd B.H0 a (.lst vs)) (i : IsDs c.n B ds vs) : WalkD c B ds (Itl X.K a) := fun j B2 σ2 H2 s2 fs2 l r => by
  have h2 : SqL X.K H2 a vs := .inl (rd_mono (l.h0.trans r.lv.up) h)
  refine ⟨fun d hd => ?_, fun hj => ⟨vs, h2, by rw [i.length]; exact Nat.le_of_eq hj⟩⟩
  obtain ⟨v, hv, iv⟩ := i.get hd
  exact ⟨⟨vs, v, h2, hv⟩, fun x H3 ⟨e, y⟩ => ⟨B2, .refl _, by rw [e]; exact r, by
    have := y vs h2
    rw [hv] at this
    rw [← Option.some.inj this]
    exact IsD.mono l d v iv⟩⟩
theorem walk_tup [g : Gd X c] {B : Bs} {a : Addr} {vs : List V} {ds : List D} (h : SqT X.K B.H0 a vs) (i : IsDs c.n B ds vs) : WalkD c B ds (Itt X.K a) := fun j B2 σ2 H2 s2 fs2 l r => by
  have h2 : SqT X.K H2 a vs := sqT_mono (l.h0.trans r.lv.up) h
  refine ⟨fun d hd => ?_, fun hj => ⟨vs, h2, by rw [i.length]; exact Nat.le_of_eq hj⟩⟩
  obtain ⟨v, hv, iv⟩ := i.get hd
  exact ⟨⟨vs, v, h2, hv⟩, fun x H3 ⟨e, y⟩ => ⟨B2, .refl _, by rw [e]; exact r, by
    have := y vs h2
    rw [hv] at this
    rw [← Option.some.inj this]
    exact IsD.mono l d v iv⟩⟩
def rgD (lo : Int) (n : Nat) : List D := (List.range n).map fun (k : Nat) => .int (lo + (k : Int))
theorem rgD_get {lo : Int} {n i : Nat} {d : D} (h : (rgD lo n)[i]? = some d) : i < n ∧ d = .int (lo + (i : Int)) := by
  unfold rgD at h
  rw [List.getElem?_map] at h
  by_cases hi : i < n
  · rw [List.getElem?_range hi] at h
    exact ⟨hi, (Option.some.inj h).symm⟩
  · rw [List.getElem?_eq_none (by simpa using hi)] at h
    cases h
theorem walk_range {B : Bs} {lo : Int} {n : Nat} : WalkD c B (rgD lo n) (Itr lo n) := fun j B2 σ2 H2 s2 fs2 l r => by
  refine ⟨fun d hd => ?_, fun hj => by
    have h : n ≤ j := Nat.le_of_eq (by simpa [rgD] using hj)
    exact h⟩
  obtain ⟨h1, rfl⟩ := rgD_get hd
  exact ⟨h1, fun x H3 ⟨e, y⟩ => ⟨B2, .refl _, by rw [e]; exact r, y⟩⟩
/-- a list, a tuple -/
@[simp ↓] def itemsOf : D → MS → Rs (List D)
  | .lst ds, s => .ok ds s
  | .tup ds, s => .ok ds s
  | .tupF ds, s => .ok ds s
  | _, _ => .bad
@[simp ↓] def mIt (m : Mo D) (st : MS) : Rs (List D) := (m st).then itemsOf
theorem pi_both {tl : TE} (hl : PE X e tl) : PI X tg e (fun σ H R => tl σ H fun x H1 => (∃ a, x = .ref a ∧ (∃ xs, SqL X.K H1 a xs) ∧ R (Itl X.K a) H1) ∨ (∃ a, x = .ref a ∧ (∃ xs, SqT X.K H1 a xs) ∧ R (Itt X.K a) H1)) := by
  refine ⟨fun pins s σ H R I h => ?_⟩
  refine thn (hl.run pins s σ H _ I h) fun v s1 ⟨x, H1, I1, r1, q1⟩ => ?_
  rcases q1 with q1 | q1
  · obtain ⟨a, e, ⟨xs, hq⟩, q⟩ := q1
    subst e
    cases r1
    obtain ⟨its, rv, p, hz⟩ := I1.list hq
    refine wpAny_pyIter_list p.isList ?_
    refine ⟨s1.heap.objs.size, [s1.heap.objs.size], _, _, H1, rfl, I1.kept (t' := s1.toks) fun b o e => Heap.get?_push_of_some _ e, turn_list a _, ⟨_, Heap.get?_push_size _ rfl, rfl, rfl⟩, fun b hb => ?_, q⟩
    have e : b = s1.heap.objs.size := by simpa using hb
    subst e
    exact I1.fpOk (Nat.le_refl _) (I1.hok.fresh (Nat.le_refl _))
  · obtain ⟨a, e, ⟨xs, hq⟩, q⟩ := q1
    subst e
    cases r1
    obtain ⟨its, rv, p, hz⟩ := I1.tuple hq
    refine wpAny_pyIter_tuple (show s1.heap.IsTuple a its.toArray from p) ?_
    refine ⟨s1.heap.objs.size, [s1.heap.objs.size], _, _, H1, rfl, I1.kept (t' := s1.toks) fun b o e => Heap.get?_push_of_some _ e, turn_tuple a _, ⟨_, Heap.get?_push_size _ rfl, rfl, rfl⟩, fun b hb => ?_, q⟩
    have e : b = s1.heap.objs.size := by simpa using hb
    subst e
    exact I1.fpOk (Nat.le_refl _) (I1.hok.fresh (Nat.le_refl _))
theorem ie_seq [g : Gd X c] {m : Mo D} (h : DE X c W e m) : IE X c W tg e (mIt m) :=
  ⟨piImp (pi_both h.pe) fun σ H R ⟨B, st, fs, r, p⟩ => ⟨B, st, fs, r, (Post.bind p).up (.refl B) fun d s k B1 H1 v l1 r1 i1 => by
    have hK : c.n.K = X.K := by rw [g.n]
    cases d with
    | lst ds =>
      obtain ⟨a, vs, rfl, h2, h3⟩ := i1
      exact .inl ⟨a, rfl, ⟨vs, .inl (rd_mono r1.lv.up h2)⟩, k B1 H1 _ l1 r1 (walk_list h2 h3)⟩
    | tup ds =>
      obtain ⟨a, vs, rfl, h2, h3⟩ := i1
      rw [hK] at h2
      exact .inr ⟨a, rfl, ⟨vs, sqT_mono r1.lv.up h2⟩, k B1 H1 _ l1 r1 (walk_tup h2 h3)⟩
    | tupF ds =>
      obtain ⟨a, vs, rfl, h2, h3⟩ := IsD.weak i1
      rw [hK] at h2
      exact .inr ⟨a, rfl, ⟨vs, sqT_mono r1.lv.up h2⟩, k B1 H1 _ l1 r1 (walk_tup h2 h3)⟩
    | _ => exact k.elim⟩⟩
/-- range -/
def inR (j : Int) : Bool := decide (j.natAbs < 2 ^ 62)
@[simp ↓] def rg1 : List D → MS → Rs (List D)
  | [.int j], s => if inR j = true then .ok (rgD 0 j.toNat) s else .bad
  | _, _ => .bad
@[simp ↓] def rg2 : List D → MS → Rs (List D)
  | [.int i, .int j], s => if (inR i && inR j) = true then .ok (rgD i (j - i).toNat) s else .bad
  | _, _ => .bad
@[simp ↓] def mRg1 (ms : Mo (List D)) (st : MS) : Rs (List D) := (ms st).then rg1
@[simp ↓] def mRg2 (ms : Mo (List D)) (st : MS) : Rs (List D) := (ms st).then rg2
theorem inR_ok {j : Int} (h : inR j = true) : -(2 ^ 62) ≤ j ∧ j < 2 ^ 62 := by
  unfold inR at h
  have := of_decide_eq_true h
  omega
theorem ie_range1 {ms : Mo (List D)} {p : Pos} (hg : Gl X "range") (hm : X.mg "range" = none) (ha : AE X c W [a] ms) (hs : starEach [a] X.env = [(false, eval a X.env)] := by rfl) : IE X c W tg (.Call (.Name "range" p) [a] [] pos) (mRg1 ms) :=
  ⟨piImp (pi_range1 hg hm ha.pa hs) fun σ H R ⟨B, st, fs, r, p⟩ => ⟨B, st, fs, r, (Post.bind p).up (.refl B) fun ds s k B1 H1 vs l1 r1 i1 => by
    unfold rg1 at k
    split at k
    · split at k
      · rename_i j q
        obtain ⟨v, w, rfl, h1, h2⟩ := i1
        cases (show w = [] from h2)
        exact ⟨j, by rw [(show v = .int j from h1)], (inR_ok q).1, (inR_ok q).2, k B1 H1 _ l1 r1 walk_range⟩
      · exact k.elim
    · exact k.elim⟩⟩
theorem ie_range2 {ms : Mo (List D)} {p : Pos} (hg : Gl X "range") (hm : X.mg "range" = none) (ha : AE X c W [a, b] ms) (hs : starEach [a, b] X.env = [(false, eval a X.env), (false, eval b X.env)] := by rfl) (hs2 : starEach [b] X.env = [(false, eval b X.env)] := by rfl) : IE X c W tg (.Call (.Name "range" p) [a, b] [] pos) (mRg2 ms) :=
  ⟨piImp (pi_range2 hg hm ha.pa hs hs2) fun σ H R ⟨B, st, fs, r, p⟩ => ⟨B, st, fs, r, (Post.bind p).up (.refl B) fun ds s k B1 H1 vs l1 r1 i1 => by
    unfold rg2 at k
    split at k
    · split at k
      · rename_i i j q
        rw [Bool.and_eq_true] at q
        obtain ⟨v, w, rfl, h1, v2, w2, rfl, h3, h4⟩ := i1
        cases (show w2 = [] from h4)
        exact ⟨i, j, by rw [(show v = .int i from h1), (show v2 = .int j from h3)], ⟨(inR_ok q.1).1, (inR_ok q.1).2, (inR_ok q.2).1, (inR_ok q.2).2⟩, k B1 H1 _ l1 r1 walk_range⟩
      · exact k.elim
    · exact k.elim⟩⟩
end
/-! ### targets -/
abbrev Gt := D → MS → Option MS
def rG (c : Cn) (vs : List Nat) (g : Gt) : TG := fun v σ H Q => ∃ B st x fs, Rel c B σ H st fs ∧ IsD c.n B x v ∧ (match g x st with
  | some st' => ∀ B' σ' H', B.le B' → Rel c B' σ' H' st' fs → L2.wipe σ' vs = L2.wipe σ vs → Q σ' H'
  | none => False)
def rGs (c : Cn) (vs : List Nat) (g : List D → MS → Option MS) : TGs := fun vals σ H Q => ∃ B st xs fs, Rel c B σ H st fs ∧ IsDs c.n B xs vals ∧ (match g xs st with
  | some st' => ∀ B' σ' H', B.le B' → Rel c B' σ' H' st' fs → L2.wipe σ' vs = L2.wipe σ vs → Q σ' H'
  | none => False)
structure TGE (X : Cx) (c : Cn) (vs : List Nat) (tg : Expr) (g : Gt) : Prop where
  pg : PG X tg (rG c vs g)
structure TGEs (X : Cx) (c : Cn) (vs : List Nat) (tgs : List Expr) (g : List D → MS → Option MS) : Prop where
  pgs : PGs X tgs (rGs c vs g)
theorem pgImp {X : Cx} {tg : Expr} {t t' : TG} (h : PG X tg t) (f : ∀ v σ H Q, t' v σ H Q → t v σ H Q) : PG X tg t' := ⟨fun pins s σ H v u Q I r q => h.run pins s σ H v u Q I r (f v σ H Q q)⟩
theorem pgsImp {X : Cx} {tg : List Expr} {t t' : TGs} (h : PGs X tg t) (f : ∀ v σ H Q, t' v σ H Q → t v σ H Q) : PGs X tg t' := ⟨fun pins s σ H v u Q I r q => h.run pins s σ H v u Q I r (f v σ H Q q)⟩
theorem wipe_set {σ : Sg} {i : Nat} {v : V} : ∀ {vs : List Nat}, i ∈ vs → L2.wipe (σ.set i (some v)) vs = L2.wipe σ vs
  | [], h => by simp at h
  | j :: r, h => by
    show (L2.wipe (σ.set i (some v)) r).set j none = (L2.wipe σ r).set j none
    by_cases hr : i ∈ r
    · rw [wipe_set hr]
    · have e : j = i := by
        rcases List.mem_cons.mp h with z | z
        · exact z.symm
        · exact absurd z hr
      subst e
      have hc : ∀ {vs : List Nat}, j ∉ vs → L2.wipe (σ.set j (some v)) vs = (L2.wipe σ vs).set j (some v) := by
        intro vs
        induction vs with
        | nil => intro _; rfl
        | cons k t ih =>
          intro hk
          show (L2.wipe (σ.set j (some v)) t).set k none = ((L2.wipe σ t).set k none).set j (some v)
          rw [ih (fun z => hk (List.mem_cons_of_mem _ z)), List.set_comm _ _ (fun e => hk (by rw [e]; exact List.mem_cons_self))]
      rw [hc hr, List.set_set]
section
variable {X : Cx} {c : Cn} {W : WX} {tg e : Expr} {es : List Expr} {pos : Pos} {vs : List Nat}
@[simp] def gN (i : Nat) (x : D) (st : MS) : Option MS := some { st with sl := st.sl.set i (some (.d x)) }
theorem tg_name [g : Gd X c] (i : Nat) {x : Str} (hi : X.N[i]? = some x) (hx : Loc X.env.scope x) (hv : i ∈ vs) (hf : X.fn x = true ∨ X.env.scope.names.lookup x = some .local := by first | exact .inl rfl | exact .inr rfl | assumption) : TGE X c vs (.Name x pos) (gN i) :=
  ⟨pgImp (pg_name g.nd hi hx hf) fun v σ H Q ⟨B, st, x, fs, r, ix, k⟩ => k B _ H (.refl B) (r.store (by rw [r.len, g.nn]; exact (List.getElem?_eq_some_iff.mp hi).1) ix) (wipe_set hv)⟩
@[simp] def gsN : List D → MS → Option MS
  | [], st => some st
  | _, _ => none
@[simp] def gsC (g : Gt) (gs : List D → MS → Option MS) : List D → MS → Option MS
  | x :: xs, st => (g x st).bind (gs xs)
  | _, _ => none
theorem tgs_nil : TGEs X c vs [] gsN := ⟨pgsImp pgs_nil fun v σ H Q ⟨B, st, xs, fs, r, ix, k⟩ => by
  cases xs with
  | nil => exact ⟨ix, k B σ H (.refl B) r rfl⟩
  | cons x xs => exact k.elim⟩
theorem tgs_cons {g : Gt} {gs : List D → MS → Option MS} (h : TGE X c vs e g) (hs : TGEs X c vs es gs) (hs : (assignEach (e :: es) X.env).map (·.2) = assign e X.env :: (assignEach es X.env).map (·.2) := by rfl) : TGEs X c vs (e :: es) (gsC g gs) :=
  ⟨pgsImp (pgs_cons h.pg (by assumption : TGEs X c vs es gs).pgs hs) fun v σ H Q ⟨B, st, xs, fs, r, ix, k⟩ => by
    cases xs with
    | nil => exact k.elim
    | cons x xs =>
      obtain ⟨w, rr, rfl, i1, i2⟩ := ix
      refine ⟨w, rr, rfl, B, st, x, fs, r, i1, ?_⟩
      simp only [gsC] at k
      cases q : g x st with
      | none => rw [q] at k; exact k.elim
      | some st1 =>
        rw [q] at k
        simp only [Option.bind_some] at k
        intro B1 σ1 H1 l1 r1 w1
        refine ⟨B1, st1, xs, fs, r1, i2.mono l1 _ _, ?_⟩
        cases q2 : gs xs st1 with
        | none => rw [q2] at k; exact k.elim
        | some st2 =>
          rw [q2] at k
          exact fun B2 σ2 H2 l2 r2 w2 => k B2 σ2 H2 (l1.trans l2) r2 (w2.trans w1)⟩
@[simp] def gT (n : Nat) (gs : List D → MS → Option MS) : Gt
  | .tup xs, st => if xs.length = n then gs xs st else none
  | _, _ => none
theorem tg_tup [gd : Gd X c] {k n : Nat} {gs : List D → MS → Option MS} (h : TGEs X c vs es gs) (hn : (assignEach es X.env).length = n := by rfl) (hst : (assignEach es X.env).findIdx? (·.1) = none := by rfl) : TGE X c vs (.Tuple es k pos) (gT n gs) :=
  ⟨pgImp (pg_tup gd.calm h.pgs hn hst) fun v σ H Q ⟨B, st, x, fs, r, ix, k⟩ => by
    cases x with
    | tup xs =>
      obtain ⟨a, ws, rfl, h2, h3⟩ := ix
      have hK : c.n.K = X.K := by rw [gd.n]
      rw [hK] at h2
      simp only [gT] at k
      split at k
      · rename_i q
        exact (fun (p : ∃ st', gs xs st = some st') => by
          obtain ⟨st', e⟩ := p
          split at q
          · rename_i hl
            refine ⟨a, ws, rfl, sqT_mono r.lv.up h2, by rw [h3.length]; exact hl, B, st, xs, fs, r, h3, ?_⟩
            rw [q]
            exact k
          · cases q) (by split at q; exact ⟨_, q⟩; cases q)
      · exact k.elim
    | _ => exact k.elim⟩
end
/-! ### loops -/
def mForL (g : Gt) (body : MoS) (wp : List Nat) : List D → MoS
  | [], st => .nx st
  | x :: xs, st => match g x st with
    | none => .bad
    | some s1 => match body s1 with
      | .nx s2 => mForL g body wp xs { s2 with sl := wipeS s2.sl wp }
      | .ct s2 => mForL g body wp xs { s2 with sl := wipeS s2.sl wp }
      | .bk s2 => .nx { s2 with sl := wipeS s2.sl wp }
      | .rt r g => .rt r g
      | .ex x as st => .ex x as st
      | .bad => .bad
@[simp ↓] def mFor (mi : Mo (List D)) (g : Gt) (body : MoS) (wp : List Nat) (st : MS) : RSt := (mi st).st fun items s => mForL g body wp items s
class PO (X : Cx) : Prop where
  po : PassesOwn (model X.prog X.w) X.A X.env X.xe
section
variable {X : Cx} {c : Cn} {W : WX} {tg it e : Expr} {es : List Expr} {pos : Pos} {vs : List Nat}
theorem se_for [gd : Gd X c] [po : PO X] {body : List Stmt} {mi : Mo (List D)} {g : Gt} {m : MoS} (wp : List Nat) (hi : IE X c W tg it mi) (hg : TGE X c vs tg g) (hb : SSE X c W body m) (hs : ∀ x, foldedSetIterable it X.env x = pure x := by intro _; rfl) :
    SE X c W (.For tg it body [] pos) (mFor mi g m wp) :=
  ⟨psImp (ps_for po.po gd.calm hi.pi hg.pg hb.ps hs) fun D σ H ⟨B, st, r, p⟩ => ⟨B, st, [], r, (PostS.bind p).up (.refl B) fun items s k B1 H1 J l1 r1 wk => by
    refine ⟨fun i m' σ H => m' = items.length - i ∧ i ≤ items.length ∧ ∃ B2 s2, B1.le B2 ∧ Rel c B2 σ H s2 [] ∧ PostS c W B2 (mForL g m wp (items.drop i) s2) D, ⟨items.length, by simp, Nat.zero_le _, B1, s, .refl _, r1, by rw [List.drop_zero]; exact PostS.up k l1⟩, ?_⟩
    rintro i m' σ2 H2 ⟨rfl, hi, B2, s2, l2, r2, p2⟩
    obtain ⟨w1, w2⟩ := wk i B2 σ2 H2 s2 [] l2 r2
    by_cases hlt : i < items.length
    · obtain ⟨go, yl⟩ := w1 items[i] (List.getElem?_eq_getElem hlt)
      have ed : items.drop i = items[i] :: items.drop (i + 1) := List.drop_eq_getElem_cons hlt
      rw [ed] at p2
      unfold mForL at p2
      refine .inr ⟨go, fun σ H => ∃ B2 s2, B1.le B2 ∧ Rel c B2 σ H s2 [] ∧ PostS c W B2 (mForL g m wp (items.drop (i + 1)) s2) D, fun σ' H' ⟨B3, s3, l3, r3, p3⟩ => ⟨items.length - (i + 1), by omega, rfl, hlt, B3, s3, l3, r3, p3⟩, fun x H3 hy => ?_⟩
      obtain ⟨B3, l3, r3, i3⟩ := yl x H3 hy
      refine ⟨B3, s2, items[i], [], r3, i3, ?_⟩
      cases q : g items[i] s2 with
      | none => rw [q] at p2; exact p2
      | some s4 =>
        rw [q] at p2
        intro B4 σ4 H4 l4 r4 _
        refine ⟨B4, s4, r4, ?_⟩
        simp only at p2
        cases q2 : m s4 with
        | nx s5 =>
          rw [q2] at p2
          exact fun B5 σ5 H5 l5 r5 => ⟨B5, _, ((l2.trans l3).trans l4).trans l5, r5.wiped wp, PostS.up p2 ((l3.trans l4).trans l5)⟩
        | ct s5 =>
          rw [q2] at p2
          exact fun B5 σ5 H5 l5 r5 => ⟨B5, _, ((l2.trans l3).trans l4).trans l5, r5.wiped wp, PostS.up p2 ((l3.trans l4).trans l5)⟩
        | bk s5 =>
          rw [q2] at p2
          exact fun B5 σ5 H5 l5 r5 => p2 B5 σ5 H5 ((l3.trans l4).trans l5) (r5.wiped wp)
        | rt r g => rw [q2] at p2; exact p2
        | ex x as s5 => rw [q2] at p2; exact fun B5 σ5 H5 C d l5 => p2 B5 σ5 H5 C d ((l3.trans l4).trans l5)
        | bad => rw [q2] at p2; exact p2
    · have e : i = items.length := by omega
      rw [e, List.drop_length] at p2
      exact .inl ⟨w2 (by omega), p2 B2 σ2 H2 (.refl _) r2⟩⟩⟩
def mWhileN (mt : Mo Bool) (m : MoS) (wp : List Nat) : Nat → MoS
  | 0, _ => .bad
  | n + 1, st => (mt st).st fun b s => if b then (match m s with
      | .nx s2 => mWhileN mt m wp n { s2 with sl := wipeS s2.sl wp }
      | .ct s2 => mWhileN mt m wp n { s2 with sl := wipeS s2.sl wp }
      | .bk s2 => .nx { s2 with sl := wipeS s2.sl wp }
      | .rt r g => .rt r g
      | .ex x as st => .ex x as st
      | .bad => .bad) else .nx s
def fuel : Nat := 2 ^ 200
def mWhile (mt : Mo Bool) (m : MoS) (wp : List Nat) : MoS := mWhileN mt m wp fuel
theorem se_while [po : PO X] {t : Expr} {body : List Stmt} {mt : Mo Bool} {m : MoS} (wp : List Nat) (ht : TEs X c W t mt) (hb : SSE X c W body m) : SE X c W (.While t body [] pos) (mWhile mt m wp) :=
  ⟨psImp (ps_while po.po ht.pt hb.ps) fun D σ H ⟨B, st, r, p⟩ => by
    refine ⟨fun n σ H => ∃ B2 s2, Rel c B2 σ H s2 [] ∧ PostS c W B2 (mWhileN mt m wp n s2) D, ⟨fuel, B, st, r, p⟩, ?_⟩
    rintro n σ2 H2 ⟨B2, s2, r2, p2⟩
    cases n with
    | zero => exact p2.elim
    | succ n =>
      unfold mWhileN at p2
      refine ⟨B2, s2, [], r2, (PostS.bind p2).up (.refl _) fun b s3 k B3 H3 l3 r3 => ?_⟩
      cases b with
      | false =>
        rw [if_neg Bool.false_ne_true]
        exact k B3 σ2 H3 l3 r3
      | true =>
        rw [if_pos rfl]
        refine ⟨fun σ H => ∃ B2 s2, Rel c B2 σ H s2 [] ∧ PostS c W B2 (mWhileN mt m wp n s2) D, fun σ' H' h => ⟨n, Nat.lt_succ_self n, h⟩, B3, s3, r3, ?_⟩
        simp only [if_true] at k
        cases q2 : m s3 with
        | nx s5 =>
          rw [q2] at k
          exact fun B5 σ5 H5 l5 r5 => ⟨B5, _, r5.wiped wp, PostS.up k (l3.trans l5)⟩
        | ct s5 =>
          rw [q2] at k
          exact fun B5 σ5 H5 l5 r5 => ⟨B5, _, r5.wiped wp, PostS.up k (l3.trans l5)⟩
        | bk s5 =>
          rw [q2] at k
          exact fun B5 σ5 H5 l5 r5 => k B5 σ5 H5 (l3.trans l5) (r5.wiped wp)
        | rt r g => rw [q2] at k; exact k
        | ex x as s5 => rw [q2] at k; exact fun B5 σ5 H5 C d l5 => k B5 σ5 H5 C d (l3.trans l5)
        | bad => rw [q2] at k; exact k⟩
/-! ### list comprehensions -/
abbrev noW : WX := fun _ _ _ _ => False
/-- the items' own slots as they were, where they are data -/
@[simp] def backS (o s : List (Option SV)) : List Nat → List (Option SV)
  | [] => s
  | i :: r => (backS o s r).set i (match o[i]? with
    | some (some (.d x)) => some (.d x)
    | _ => none)
def lcL (g : Gt) (mt : Mo Bool) (me : Mo D) (own : List Nat) : List D → List D → MS → Rs (List D)
  | [], acc, st => .ok acc st
  | x :: xs, acc, st => match g x st with
    | none => .bad
    | some s1 => match mt s1 with
      | .ok true s2 => (match me s2 with
        | .ok d s3 => if decide (acc.length < lim) = true then lcL g mt me own xs (acc ++ [d]) { s3 with sl := wipeS s3.sl own } else .bad
        | _ => .bad)
      | .ok false s2 => lcL g mt me own xs acc { s2 with sl := wipeS s2.sl own }
      | _ => .bad
@[simp ↓] def mLc (mi : Mo (List D)) (g : Gt) (mt : Mo Bool) (me : Mo D) (own : List Nat) (st : MS) : Rs EX := (mi st).then fun items s => (lcL g mt me own items [] { s with sl := wipeS s.sl own }).then fun acc s' => .ok (.f (.l acc)) { s' with sl := backS s.sl s'.sl own }
@[simp ↓] def mYes (st : MS) : Rs Bool := .ok true st
structure TTs (X : Cx) (c : Cn) (W : WX) (ifs : List Expr) (m : Mo Bool) : Prop where
  pts : PTs X ifs (rT c W m)
theorem tt_nil : TTs X c W [] mYes := ⟨⟨fun pins s σ H Q I ⟨B, st, fs, r, p⟩ => (pts_nil (X := X)).run pins s σ H Q I (p B H (.refl B) r)⟩⟩
theorem tt_one {m : Mo Bool} (h : TEs X c W e m) : TTs X c W [e] m := ⟨pts_one h.pt⟩
theorem wipe_ne {σ : Sg} {i : Nat} : ∀ {vs : List Nat}, i ∉ vs → (L2.wipe σ vs)[i]? = σ[i]?
  | [], _ => rfl
  | v :: r, h => by
    show ((L2.wipe σ r).set v none)[i]? = σ[i]?
    rw [List.getElem?_set_ne (fun e => h (by rw [e]; exact List.mem_cons_self)), wipe_ne fun z => h (List.mem_cons_of_mem _ z)]
theorem wipeS_none {sl : List (Option SV)} {i : Nat} : ∀ {vs : List Nat}, i ∈ vs → ∀ sv, (wipeS sl vs)[i]? ≠ some (some sv)
  | vs, h, sv, q => (wipeS_some q).2 h
/-- the own slots are forgotten on both sides -/
theorem Rel.blk {B : Bs} {σ : Sg} {H : Hp} {st : MS} {fs : Fs} (own : List Nat) (r : Rel c B σ H st fs) : Rel c B (L2.wipe σ own) H { st with sl := wipeS st.sl own } fs := by
  obtain ⟨ad, τ, h1, h2, h3⟩ := r.sl
  refine ⟨r.ext, r.lv, by rw [L2.wipe_length]; exact r.len, ⟨ad, τ, h1, h2, fun i sv h => ?_⟩, r.fr, r.fnd⟩
  obtain ⟨g1, g2⟩ := wipeS_some h
  obtain ⟨v, e, k⟩ := h3 i sv g1
  refine ⟨v, ?_, k⟩
  by_cases hi : i < σ.length
  · rw [List.getElem?_append_left hi] at e
    rw [List.getElem?_append_left (by rw [L2.wipe_length]; exact hi), wipe_ne g2]
    exact e
  · rw [List.getElem?_append_right (by omega)] at e
    rw [List.getElem?_append_right (by rw [L2.wipe_length]; omega), L2.wipe_length]
    exact e
theorem Rel.unblk {B : Bs} {σ σ' : Sg} {H : Hp} {st : MS} {fs : Fs} {own : List Nat} (r : Rel c B σ' H st fs) (e : L2.wipe σ' own = L2.wipe σ own) : Rel c B σ H { st with sl := wipeS st.sl own } fs := by
  obtain ⟨ad, τ, h1, h2, h3⟩ := r.sl
  have el : σ'.length = σ.length := by
    have := congrArg List.length e
    rw [L2.wipe_length, L2.wipe_length] at this
    exact this
  refine ⟨r.ext, r.lv, by rw [← el]; exact r.len, ⟨ad, τ, h1, h2, fun i sv h => ?_⟩, r.fr, r.fnd⟩
  obtain ⟨g1, g2⟩ := wipeS_some h
  obtain ⟨v, q, k⟩ := h3 i sv g1
  refine ⟨v, ?_, k⟩
  by_cases hi : i < σ.length
  · rw [List.getElem?_append_left (by rw [el]; exact hi), ← wipe_ne g2, e, wipe_ne g2] at q
    rw [List.getElem?_append_left hi]
    exact q
  · rw [List.getElem?_append_right (by omega), el] at q
    rw [List.getElem?_append_right (by omega)]
    exact q
theorem Rel.back {B B' : Bs} {σ : Sg} {H H' : Hp} {st st' : MS} {fs fs' : Fs} (l : B.le B') (r0 : Rel c B σ H st fs) : ∀ {own : List Nat}, (∀ i ∈ own, i < c.nn) → (∀ i ∈ own, ∀ sv, st'.sl[i]? ≠ some (some sv)) → Rel c B' σ H' st' fs' → Rel c B' σ H' { st' with sl := backS st.sl st'.sl own } fs' := by
  intro own hn hf r
  obtain ⟨ad, τ, h1, h2, h3⟩ := r.sl
  refine ⟨r.ext, r.lv, r.len, ⟨ad, τ, h1, h2, fun i sv h => ?_⟩, r.fr, r.fnd⟩
  have key : ∀ {own : List Nat}, (∀ i ∈ own, i < c.nn) → (backS st.sl st'.sl own)[i]? = some (some sv) → (i ∈ own ∧ ∃ x, sv = .d x ∧ st.sl[i]? = some (some (.d x))) ∨ st'.sl[i]? = some (some sv) := by
    intro own
    induction own with
    | nil => exact fun _ h => .inr h
    | cons j t ih =>
      intro hn h
      have h' : ((backS st.sl st'.sl t).set j (match st.sl[j]? with
        | some (some (.d x)) => some (.d x)
        | _ => none))[i]? = some (some sv) := h
      by_cases e : j = i
      · subst e
        have hl : j < ((backS st.sl st'.sl t).set j (match st.sl[j]? with
          | some (some (.d x)) => some (.d x)
          | _ => none)).length := (List.getElem?_eq_some_iff.mp h').1
        rw [List.length_set] at hl
        rw [List.getElem?_set_self hl] at h'
        left
        refine ⟨List.mem_cons_self, ?_⟩
        split at h'
        · rename_i x q
          have h2 : SV.d x = sv := by simpa using h'
          exact ⟨x, h2.symm, q⟩
        · simp at h'
      · rw [List.getElem?_set_ne e] at h'
        rcases ih (fun i hi => hn i (List.mem_cons_of_mem _ hi)) h' with ⟨a, b⟩ | q
        · exact .inl ⟨List.mem_cons_of_mem _ a, b⟩
        · exact .inr q
  rcases key hn h with ⟨hi, x, rfl, q⟩ | q
  · have hil : i < σ.length := by rw [r.len]; exact hn i hi
    obtain ⟨ad0, τ0, g1, g2, g3⟩ := r0.sl
    obtain ⟨v, e, k⟩ := g3 i _ q
    rw [List.getElem?_append_left hil] at e
    exact ⟨v, by rw [List.getElem?_append_left hil]; exact e, IsD.mono l x v k⟩
  · exact h3 i sv q
theorem wipe_at {σ : Sg} {v : Nat} : ∀ {ws : List Nat}, v ∈ ws → v < (L2.wipe σ ws).length → (L2.wipe σ ws)[v]? = some none
  | [], h, _ => by simp at h
  | u :: t, h, hl => by
    show ((L2.wipe σ t).set u none)[v]? = some none
    have hl' : v < (L2.wipe σ t).length := by
      have hl2 : v < ((L2.wipe σ t).set u none).length := hl
      rwa [List.length_set] at hl2
    by_cases e : u = v
    · rw [e, List.getElem?_set_self hl']
    · rw [List.getElem?_set_ne e]
      exact wipe_at ((List.mem_cons.mp h).resolve_left fun z => e z.symm) hl'
theorem wipe_wipe {σ : Sg} : ∀ (vs ws : List Nat), (∀ v ∈ vs, v ∈ ws) → L2.wipe (L2.wipe σ ws) vs = L2.wipe σ ws
  | [], ws, _ => rfl
  | v :: t, ws, hvs => by
    show (L2.wipe (L2.wipe σ ws) t).set v none = L2.wipe σ ws
    rw [wipe_wipe t ws fun z hz => hvs z (List.mem_cons_of_mem _ hz)]
    refine List.ext_getElem? fun n => ?_
    by_cases e : v = n
    · subst e
      by_cases hl : v < (L2.wipe σ ws).length
      · rw [List.getElem?_set_self hl]
        exact (wipe_at (hvs v List.mem_cons_self) hl).symm
      · rw [List.getElem?_eq_none (by rw [List.length_set]; omega), List.getElem?_eq_none (by omega)]
    · rw [List.getElem?_set_ne e]
instance gdB {s : Shared} {H : Hp} {scope : Scope} {ce : Env} {fp : List Addr} [g : Gd X c] : Gd (X.blk s H scope ce fp) c := ⟨g.n, g.calm, g.nd, g.nn⟩
instance tkB {s : Shared} {H : Hp} {scope : Scope} {ce : Env} {fp : List Addr} : Tk (X.blk s H scope ce fp) noW := ⟨takes0⟩
theorem lc_go [gd : Gd X c] {mi : Mo (List D)} {g : Gt} {mt : Mo Bool} {me : Mo D} {own : List Nat} {σ : Sg} {H : Hp} {Q : VK} (ho : ∀ i ∈ own, i < X.N.length) (h : rX c W (mLc mi g mt me own) σ H Q) : tLc (rI c W mi) (rG c own g) (rT c noW mt) (rD c noW me) own σ H Q := by
  obtain ⟨B, st, fs, r, p⟩ := h
  refine ⟨B, st, fs, r, (Post.bind p).up (.refl B) fun items s k B1 H1 J l1 r1 wk D0 hD => ?_⟩
  have r2 : Rel c B1 σ (upd H1 D0 (.lst [])) s ((D0, .l []) :: fs) := r1.newF hD ⟨[], upd_same, rfl⟩
  have k' := Post.bind k
  refine ⟨fun i m H => m = items.length - i ∧ i ≤ items.length ∧ ∃ B2 s2 acc, B1.le B2 ∧ Rel c B2 (L2.wipe σ own) H s2 ((D0, .l acc) :: fs) ∧ (∀ i ∈ own, ∀ sv, s2.sl[i]? ≠ some (some sv)) ∧
    Post c W σ B (lcL g mt me own (items.drop i) acc s2) fun acc s' => KX c σ B fs Q (.f (.l acc)) { s' with sl := backS s.sl s'.sl own },
    ⟨items.length, by simp, Nat.zero_le _, B1, _, [], .refl _, r2.blk own, fun i hi sv => wipeS_none hi sv, by rw [List.drop_zero]; exact k'⟩, ?_⟩
  rintro i m H2 ⟨rfl, hi, B2, s2, acc, l2, r3, hw, p2⟩
  obtain ⟨w1, w2⟩ := wk i B2 _ H2 s2 _ l2 r3
  by_cases hlt : i < items.length
  · obtain ⟨go, yl⟩ := w1 items[i] (List.getElem?_eq_getElem hlt)
    have ed : items.drop i = items[i] :: items.drop (i + 1) := List.drop_eq_getElem_cons hlt
    rw [ed] at p2
    unfold lcL at p2
    refine .inr ⟨go, fun H => ∃ B2 s2 acc, B1.le B2 ∧ Rel c B2 (L2.wipe σ own) H s2 ((D0, .l acc) :: fs) ∧ (∀ i ∈ own, ∀ sv, s2.sl[i]? ≠ some (some sv)) ∧
      Post c W σ B (lcL g mt me own (items.drop (i + 1)) acc s2) fun acc s' => KX c σ B fs Q (.f (.l acc)) { s' with sl := backS s.sl s'.sl own }, fun H' ⟨B3, s3, acc3, l3, r3, hw3, p3⟩ => ⟨items.length - (i + 1), by omega, rfl, hlt, B3, s3, acc3, l3, r3, hw3, p3⟩, fun x H3 hy => ?_⟩
    obtain ⟨B3, l3, r4, i4⟩ := yl x H3 hy
    refine ⟨B3, s2, items[i], _, r4, i4, ?_⟩
    cases q : g items[i] s2 with
    | none => rw [q] at p2; exact p2
    | some s4 =>
      rw [q] at p2
      simp only at p2
      intro B4 σ4 H4 l4 r5 we
      have we' : L2.wipe σ4 own = L2.wipe σ own := we.trans (wipe_wipe own own fun _ h => h)
      refine ⟨we', B4, s4, _, r5, ?_⟩
      cases q2 : mt s4 with
      | bad => rw [q2] at p2; exact p2.elim
      | ex x as s5 => rw [q2] at p2; exact p2.elim
      | ok b s5 =>
        rw [q2] at p2
        intro B5 H5 l5 r6
        have fin : ∀ {B6 : Bs} {H6 : Hp} {s6 : MS} {acc' : List D}, B1.le B6 → Rel c B6 σ4 H6 s6 ((D0, .l acc') :: fs) → Rel c B6 (L2.wipe σ own) H6 { s6 with sl := wipeS s6.sl own } ((D0, .l acc') :: fs) := fun {B6 H6 s6 acc'} l6 r6 => by
          have := r6.blk own
          rw [we'] at this
          exact this
        cases b with
        | false =>
          rw [if_neg Bool.false_ne_true]
          exact ⟨B5, _, acc, ((l2.trans l3).trans l4).trans l5, fin (((l2.trans l3).trans l4).trans l5) r6, fun i hi sv => wipeS_none hi sv, p2⟩
        | true =>
          rw [if_pos rfl]
          refine ⟨B5, s5, _, r6, ?_⟩
          simp only at p2
          cases q3 : me s5 with
          | bad => rw [q3] at p2; exact p2.elim
          | ex x as s6 => rw [q3] at p2; exact p2.elim
          | ok d s6 =>
            rw [q3] at p2
            simp only at p2
            intro B6 H6 v l6 r7 iv
            split at p2
            · rename_i hlim
              obtain ⟨_, ws, hws, iws⟩ := r7.fr _ List.mem_cons_self
              have lall : B1.le B6 := (((l2.trans l3).trans l4).trans l5).trans l6
              refine ⟨ws, hws, ?_, B6, _, acc ++ [d], lall, fin lall (r7.writeF (f' := .l (acc ++ [d])) ⟨ws ++ [v], upd_same, iws.append ⟨v, [], rfl, iv, rfl⟩⟩), fun i hi sv => wipeS_none hi sv, p2⟩
              rw [iws.length]
              have := of_decide_eq_true hlim
              have e : sizeLine = 16777216 := sizeLine_eq
              rw [e]
              unfold lim at this
              omega
            · exact p2.elim
  · have e : i = items.length := by omega
    rw [e, List.drop_length] at p2
    refine .inl ⟨w2 (by omega), ?_⟩
    have r5 : Rel c B2 σ H2 { s2 with sl := wipeS s2.sl own } ((D0, .l acc) :: fs) := r3.unblk (wipe_wipe own own fun _ h => h)
    have es : wipeS s2.sl own = s2.sl := by
      have : ∀ (vs : List Nat), (∀ i ∈ vs, ∀ sv, s2.sl[i]? ≠ some (some sv)) → wipeS s2.sl vs = s2.sl := by
        intro vs
        induction vs with
        | nil => intro _; rfl
        | cons v t ih =>
          intro hv
          show (wipeS s2.sl t).set v none = s2.sl
          rw [ih fun i hi => hv i (List.mem_cons_of_mem _ hi)]
          refine List.ext_getElem? fun n => ?_
          by_cases e : v = n
          · subst e
            by_cases hl : v < s2.sl.length
            · rw [List.getElem?_set_self hl]
              cases q : s2.sl[v]? with
              | none => rw [List.getElem?_eq_none_iff] at q; omega
              | some o =>
                cases o with
                | none => rfl
                | some sv => exact absurd q (hv v List.mem_cons_self sv)
            · rw [List.getElem?_eq_none (by rw [List.length_set]; omega), List.getElem?_eq_none (by omega)]
          · rw [List.getElem?_set_ne e]
      exact this own hw
    rw [es] at r5
    exact p2 B2 H2 D0 (l1.trans l2) (Rel.back l2 r1 (fun i hi => by rw [gd.nn]; exact ho i hi) hw r5)
theorem ge_lc [gd : Gd X c] {elt : Expr} {ifs : List Expr} {scope : Scope} {own : List (Str × Nat)} {mi : Mo (List D)} {g : Gt} {mt : Mo Bool} {me : Mo D} (hi : IE X c W tg it mi) (ok : BlkOk X.N X.env.scope scope own)
    (hg : ∀ (s : Shared) (H : Hp) (C : Addr) (cl : List (Str × Addr)) (fp : List Addr), TGE (X.blk s H scope (compEnvC scope cl C X.env) fp) c (own.map (·.2)) tg g)
    (ht : ∀ (s : Shared) (H : Hp) (C : Addr) (cl : List (Str × Addr)) (fp : List Addr), TTs (X.blk s H scope (compEnvC scope cl C X.env) fp) c noW ifs mt)
    (he : ∀ (s : Shared) (H : Hp) (C : Addr) (cl : List (Str × Addr)) (fp : List Addr), DE (X.blk s H scope (compEnvC scope cl C X.env) fp) c noW elt me) (hs : ∀ x, foldedSetIterable it X.env x = pure x := by intro _; rfl) :
    GE X c W (.ListComp elt [⟨tg, it, ifs, 0⟩] scope pos) (mLc mi g mt me (own.map (·.2))) :=
  ⟨peImp (pe_lc gd.calm gd.nd hi.pi ok (fun s H C cl fp => (hg s H C cl fp).pg) (fun s H C cl fp => (ht s H C cl fp).pts) (fun s H C cl fp => (he s H C cl fp).pe) hs) fun σ H Q h => lc_go (fun i hi => by
    obtain ⟨p, hp, rfl⟩ := List.mem_map.mp hi
    exact (List.getElem?_eq_some_iff.mp (ok.ix p hp)).1) h⟩
/-- name = [..], the name a local -/
theorem se_setLc [gd : Gd X c] (i : Nat) {y : Str} {py spos : Pos} {elt : Expr} {ifs : List Expr} {scope : Scope} {own : List (Str × Nat)} {mi : Mo (List D)} {g : Gt} {mt : Mo Bool} {me : Mo D} (hy : X.N[i]? = some y) (hyl : X.env.scope.names.lookup y = some .local)
    (hsw : swapsWith (.ListComp elt [⟨tg, it, ifs, 0⟩] scope pos) (some (.Name y py)) spos.line X.env = pure true) (hi : IE X c W tg it mi) (ok : BlkOk X.N X.env.scope scope own)
    (hg : ∀ (s : Shared) (H : Hp) (C : Addr) (cl : List (Str × Addr)) (fp : List Addr), TGE (X.blk s H scope (compEnvC scope cl C X.env) fp) c (own.map (·.2)) tg g)
    (ht : ∀ (s : Shared) (H : Hp) (C : Addr) (cl : List (Str × Addr)) (fp : List Addr), TTs (X.blk s H scope (compEnvC scope cl C X.env) fp) c noW ifs mt)
    (he : ∀ (s : Shared) (H : Hp) (C : Addr) (cl : List (Str × Addr)) (fp : List Addr), DE (X.blk s H scope (compEnvC scope cl C X.env) fp) c noW elt me) (hs : ∀ x, foldedSetIterable it X.env x = pure x := by intro _; rfl) :
    SE X c W (.Assign [.Name y py] (.ListComp elt [⟨tg, it, ifs, 0⟩] scope pos) spos) (mSet i (mLc mi g mt me (own.map (·.2)))) :=
  ⟨psImp (ps_setLc gd.calm gd.nd hy hyl hsw hi.pi ok (fun s H C cl fp => (hg s H C cl fp).pg) (fun s H C cl fp => (ht s H C cl fp).pts) (fun s H C cl fp => (he s H C cl fp).pe) hs) fun D σ H h => lc_go (fun i hi => by
    obtain ⟨p, hp, rfl⟩ := List.mem_map.mp hi
    exact (List.getElem?_eq_some_iff.mp (ok.ix p hp)).1) (put_go (by rw [gd.nn]; exact (List.getElem?_eq_some_iff.mp hy).1) h)⟩
end
end Y
namespace Y
open PySem PySem.Spec PyProof.Rows L2
section
variable {X : Cx} {c : Cn} {W : WX} {tg it e a b : Expr} {es : List Expr} {pos : Pos} {vs : List Nat}
/-! ### subscripts -/
theorem atI_isDs {n : Kn} {B : Bs} {ds : List D} {vs : List V} {i : Int} {d : D} (h : IsDs n B ds vs) (e : atI ds i = some d) : ∃ v, atI vs i = some v ∧ IsD n B d v := by
  unfold atI at e ⊢
  rw [h.length]
  cases q : ixN ds.length i with
  | none => rw [q] at e; cases e
  | some j =>
    rw [q] at e
    exact h.get e
@[simp] def fIx : D → D → Option D
  | .lst ds, .int i => atI ds i
  | .tup ds, .int i => atI ds i
  | .str z, .int i => if decide (z.length ≤ lim) = true then (atI z.cps.toList i).map fun c => .str ⟨#[c]⟩ else none
  | _, _ => none
theorem ix_go [g : Gd X c] {B : Bs} {σ : Sg} {H : Hp} {st : MS} {fs : Fs} {x y : V} {a b d : D} {Q : VK} (R : Rel c B σ H st fs) (va : VD c.n B H a x) (vb : VD c.n B H b y) (e : fIx a b = some d) (k : KD c σ B fs Q d st) : rIx X.K x y H Q := by
  have hK : c.n.K = X.K := by rw [g.n]
  unfold fIx at e
  split at e
  · rename_i ds i
    obtain ⟨p, vs, rfl, h2, h3⟩ := va
    obtain ⟨v, hv, iv⟩ := atI_isDs h3 e
    exact .inl ⟨p, vs, i, v, rfl, vb, .inl h2, hv, k B H v (.refl B) R iv⟩
  · rename_i ds i
    obtain ⟨p, vs, rfl, h2, h3⟩ := va
    obtain ⟨v, hv, iv⟩ := atI_isDs h3 e
    exact .inr (.inl ⟨p, vs, i, v, rfl, vb, hK ▸ sqT_mono R.lv.up h2, hv, k B H v (.refl B) R iv⟩)
  · rename_i z i
    split at e
    · rename_i q
      cases q2 : atI z.cps.toList i with
      | none => rw [q2] at e; cases e
      | some ch =>
        rw [q2] at e
        have e' : some (D.str ⟨#[ch]⟩) = some d := e
        cases e'
        exact .inr (.inr ⟨z, i, ch, va, vb, lim_ok q, q2, k B H _ (.refl B) R rfl⟩)
    · cases e
  · cases e
theorem ee_ix [g : Gd X c] {ma mb : Mo E1} (ha : EE X c W a ma) (hb : EE X c W b mb) (hs : PlainIx b := by exact fun _ _ => rfl) : EE X c W (.Subscript a b pos) (mOp2 fIx ma mb) :=
  ⟨peImp (pe_ix ix_seq ha.pe hb.pe hs) fun σ H Q h => op2_go (f := binaryOp .Add) (fun B σ H st fs x y a b d Q R va vb e k => ix_go R va vb e k) h⟩
/-- d[k] of a dict with int and text keys -/
def keyOf : D → Option Key
  | .int i => some (.inl i)
  | .str s => some (.inr s)
  | _ => none
def dLook (k : Key) : List Key → List D → Option D
  | q :: ks, d :: ds => if q = k then some d else dLook k ks ds
  | _, _ => none
end
/-! ### slices -/
def cutL {α : Type} (xs : List α) (lo hi : Option Int) : List α := (xs.drop (HT.sIx xs.length 0 lo)).take (HT.sIx xs.length xs.length hi - HT.sIx xs.length 0 lo)
theorem cutL_isDs {n : Kn} {B : Bs} {ds : List D} {vs : List V} {lo hi : Option Int} (h : IsDs n B ds vs) : IsDs n B (cutL ds lo hi) (cutV vs lo hi) := by
  unfold cutL cutV
  rw [h.length]
  exact (h.drop _).take _
def rO (c : Cn) (W : WX) (m : Mo (Option Int)) : TO := fun σ H Q => ∃ B st fs, Rel c B σ H st fs ∧ Post c W σ B (m st) fun o s => ∀ B' H', B.le B' → Rel c B' σ H' s fs → Q o H'
structure OE (X : Cx) (c : Cn) (W : WX) (e : Option Expr) (m : Mo (Option Int)) : Prop where
  po : L2.PO X e (rO c W m)
section
variable {X : Cx} {c : Cn} {W : WX} {tg it e a b : Expr} {lo hi : Option Expr} {es : List Expr} {pos p2 : Pos} {vs : List Nat}
@[simp ↓] def mNoPart (st : MS) : Rs (Option Int) := .ok none st
@[simp ↓] def mPart (m : Mo E1) (st : MS) : Rs (Option Int) := (m st).then fun e s => match val e s with
  | some (.int i) => .ok (some i) s
  | _ => .bad
theorem oe_none : OE X c W none mNoPart := ⟨⟨fun pins s σ H Q I ⟨B, st, fs, r, p⟩ => (po_none (X := X)).run pins s σ H Q I (p B H (.refl B) r)⟩⟩
theorem oe_some {m : Mo E1} (h : EE X c W e m) : OE X c W (some e) (mPart m) := ⟨⟨fun pins s σ H Q I ⟨B, st, fs, r, p⟩ => (po_some h.pe).run pins s σ H Q I ⟨B, st, fs, r, (Post.bind p).up (.refl B) fun x s' k B1 H1 v l1 r1 i1 => by
  cases q : val x s' with
  | none => rw [q] at k; exact k.elim
  | some d =>
    rw [q] at k
    cases d with
    | int i => exact ⟨i, val_ok r1 i1 q, k B1 H1 l1 r1⟩
    | _ => exact k.elim⟩⟩⟩
@[simp] def fSl : D → Option Int → Option Int → Option DR
  | .lst ds, lo, hi => some (.f (.l (cutL ds lo hi)))
  | .scr ns, lo, hi => some (.f (.l (cutL (ns.map D.int) lo hi)))
  | .tup ds, lo, hi => some (.d (.tup (cutL ds lo hi)))
  | .str z, lo, hi => if decide (z.length ≤ lim) = true then some (.d (.str (cutS z lo hi))) else none
  | _, _, _ => none
@[simp ↓] def mSl (m : Mo E1) (ml mh : Mo (Option Int)) (st : MS) : Rs EX := (m st).then fun e s1 => (ml s1).then fun lo s2 => (mh s2).then fun hi s3 => opt (((val e s3).bind fun x => fSl x lo hi).map DR.x) s3
theorem sl_go [g : Gd X c] {B : Bs} {σ : Sg} {H : Hp} {st : MS} {fs : Fs} {x : V} {a : D} {lo hi : Option Int} {d : DR} {Q : VK} (R : Rel c B σ H st fs) (va : VD c.n B H a x) (e : fSl a lo hi = some d) (k : KX c σ B fs Q d.x st) :
    (rSlL X.K x lo hi H Q ∨ rSlA X.K x lo hi H Q) ∨ rSlS x lo hi H Q := by
  have hK : c.n.K = X.K := by rw [g.n]
  unfold fSl at e
  split at e
  · rename_i ds
    cases e
    obtain ⟨p, vs, rfl, h2, h3⟩ := va
    refine .inl (.inl ⟨p, vs, rfl, .inl h2, fun q hq => k B _ q (.refl B) (R.newF (f := .l (cutL ds lo hi)) hq ⟨_, upd_same, cutL_isDs h3⟩)⟩)
  · rename_i ns
    cases e
    obtain ⟨p, rfl, h2⟩ := va
    refine .inl (.inl ⟨p, _, rfl, hK ▸ sqL_mono R.lv.up h2, fun q hq => k B _ q (.refl B) (R.newF (f := .l (cutL (ns.map D.int) lo hi)) hq ⟨_, upd_same, cutL_isDs IsDs.of_ints⟩)⟩)
  · rename_i ds
    cases e
    obtain ⟨p, vs, rfl, h2, h3⟩ := va
    refine .inl (.inr ⟨p, vs, rfl, hK ▸ sqT_mono R.lv.up h2, fun hw => ?_, fun _ q hq => ?_⟩)
    · have e1 : cutL ds lo hi = ds := by
        unfold cutL
        rw [h3.length] at hw
        rw [hw.1, hw.2, List.drop_zero, Nat.sub_zero, List.take_length]
      have k' : KX c σ B fs Q (.e (.d (.tup ds))) st := by rw [← e1]; exact k
      exact k' B H _ (.refl B) R ⟨p, vs, rfl, h2, h3⟩
    · obtain ⟨le, r2⟩ := R.newD (o := .tup (cutV vs lo hi)) hq
      exact k _ _ _ le r2 ⟨q, _, rfl, .inl (.inl upd_same), (cutL_isDs h3).mono le _ _⟩
  · split at e
    · rename_i z q
      cases e
      exact .inr ⟨z, va, lim_ok q, k B H _ (.refl B) R rfl⟩
    · cases e
  · cases e
theorem ge_sl [g : Gd X c] {m : Mo E1} {ml mh : Mo (Option Int)} (h : EE X c W e m) (hl : OE X c W lo ml) (hh : OE X c W hi mh) : GE X c W (.Subscript e (.Slice lo hi none p2) pos) (mSl m ml mh) :=
  ⟨peImp (pe_slice ((sl_list.or sl_tupA).or sl_str) h.pe hl.po hh.po) fun σ H Q ⟨B, st, fs, r, p⟩ => ⟨B, st, fs, r, (Post.bind p).up (.refl B) fun x s1 k B1 H1 v1 l1 r1 i1 =>
    ⟨B1, s1, fs, r1, (Post.bind k).up l1 fun o s2 k2 B2 H2 l2 r2 => ⟨B2, s2, fs, r2, (Post.bind k2).up (l1.trans l2) fun u s3 k3 B3 H3 l3 r3 => by
      cases q : val x s3 with
      | none => rw [q] at k3; exact k3.elim
      | some d =>
        rw [q] at k3
        cases q2 : fSl d o u with
        | none => simp only [Option.bind_some, q2, Option.map_none] at k3; exact k3.elim
        | some z =>
          simp only [Option.bind_some, q2, Option.map_some] at k3
          exact sl_go r3 (val_ok r3 (i1.mono (l2.trans l3)) q) q2 (KX.up k3 ((l1.trans l2).trans l3))⟩⟩⟩⟩
/-! ### in, not in -/
def fIn (neg : Bool) : D → D → Option D
  | x, .lst ds => if shp x && shp (.lst ds) then some (.bl (if neg then !(ds.any fun z => eqD z x) else ds.any fun z => eqD z x)) else none
  | x, .tup ds => if flatD x && ds.all flatD then some (.bl (if neg then !(ds.any fun z => eqD z x) else ds.any fun z => eqD z x)) else none
  | .str x, .str y => some (.bl (if neg then !(!(Builtin.Str.occurrences y x 0 y.length 1).isEmpty) else !(Builtin.Str.occurrences y x 0 y.length 1).isEmpty))
  | _, _ => none
where flatD : D → Bool
  | .non => true
  | .bl _ => true
  | .int _ => true
  | .str _ => true
  | _ => false
theorem toPs_map (ds : List D) : toPs ds = ds.map toP := by
  induction ds with
  | nil => rfl
  | cons d ds ih => rw [toPs, ih]; rfl
theorem flat_v {n : Kn} {B : Bs} {d : D} {v : V} (h : IsD n B d v) (f : fIn.flatD d = true) : flatV v = true := by
  cases d with
  | non => cases (show v = .non from h); rfl
  | bl b => cases (show v = .bl b from h); rfl
  | int b => cases (show v = .int b from h); rfl
  | str b => cases (show v = .str b from h); rfl
  | _ => cases f
theorem flat_eq {n : Kn} {B : Bs} {d d' : D} {v v' : V} (h : IsD n B d v) (h' : IsD n B d' v') (f : fIn.flatD d = true) (f' : fIn.flatD d' = true) : eqV v v' = eqD d d' := by
  cases d with
  | non =>
    cases (show v = .non from h)
    cases d' with
    | non => cases (show v' = .non from h'); rfl
    | bl b => cases (show v' = .bl b from h'); rfl
    | int b => cases (show v' = .int b from h'); rfl
    | str b => cases (show v' = .str b from h'); rfl
    | _ => cases f'
  | bl i =>
    cases (show v = .bl i from h)
    cases d' with
    | non => cases (show v' = .non from h'); rfl
    | bl b => cases (show v' = .bl b from h'); rfl
    | int b => cases (show v' = .int b from h'); rfl
    | str b => cases (show v' = .str b from h'); rfl
    | _ => cases f'
  | int i =>
    cases (show v = .int i from h)
    cases d' with
    | non => cases (show v' = .non from h'); rfl
    | bl b => cases (show v' = .bl b from h'); rfl
    | int b => cases (show v' = .int b from h'); rfl
    | str b => cases (show v' = .str b from h'); rfl
    | _ => cases f'
  | str i =>
    cases (show v = .str i from h)
    cases d' with
    | non => cases (show v' = .non from h'); rfl
    | bl b => cases (show v' = .bl b from h'); rfl
    | int b => cases (show v' = .int b from h'); rfl
    | str b => cases (show v' = .str b from h'); rfl
    | _ => cases f'
  | _ => cases f
theorem flat_view {n : Kn} {B : Bs} {H : Hp} {d : D} {v : V} (h : VD n B H d v) (f : fIn.flatD d = true) : IsD n B d v := by
  cases d with
  | non => exact h
  | bl b => exact h
  | int b => exact h
  | str b => exact h
  | _ => cases f
theorem in_any {n : Kn} {B : Bs} {x : D} {v : V} (hx : IsD n B x v) (fx : fIn.flatD x = true) : ∀ {ds : List D} {vs : List V}, IsDs n B ds vs → ds.all fIn.flatD = true → vs.all flatV = true ∧ inV v vs = ds.any fun z => eqD z x
  | [], vs, h, _ => by cases (show vs = [] from h); exact ⟨rfl, rfl⟩
  | d :: ds, vs, h, f => by
    obtain ⟨w, r, rfl, h2, h3⟩ := h
    rw [List.all_cons, Bool.and_eq_true] at f
    obtain ⟨g1, g2⟩ := in_any hx fx h3 f.2
    refine ⟨by rw [List.all_cons, flat_v h2 f.1, g1]; rfl, ?_⟩
    unfold inV at g2 ⊢
    rw [List.any_cons, List.any_cons, g2, flat_eq h2 hx f.1 fx]
theorem in_go [g : Gd X c] {neg : Bool} {B : Bs} {σ : Sg} {H : Hp} {st : MS} {fs : Fs} {x y : V} {a b d : D} {Q : VK} (R : Rel c B σ H st fs) (va : VD c.n B H a x) (vb : VD c.n B H b y) (e : fIn neg a b = some d) (k : KD c σ B fs Q d st) :
    ((∃ d ds, Dp X.K H x d ∧ Dp X.K H y (.list ds) ∧ SeqAt.shaped d = true ∧ SeqAt.shaped (.list ds) = true ∧ Q (.bl (if neg then !(ds.any fun z => PyData.eqv z d) else ds.any fun z => PyData.eqv z d)) H) ∨ rIn X.K neg x y H Q) ∨
      (∃ i j, x = .str i ∧ y = .str j ∧ Q (.bl (if neg then !(!(Builtin.Str.occurrences j i 0 j.length 1).isEmpty) else !(Builtin.Str.occurrences j i 0 j.length 1).isEmpty)) H) := by
  have hK : c.n.K = X.K := by rw [g.n]
  unfold fIn at e
  split at e
  · split at e
    · rename_i ds q
      rw [Bool.and_eq_true] at q
      cases e
      refine .inl (.inl ⟨toP a, toPs ds, hK ▸ dp_view R.lv.up va (SeqAt.canLay_of_shaped q.1), hK ▸ dp_view (d := .lst ds) R.lv.up vb (SeqAt.canLay_of_shaped q.2), q.1, q.2, ?_⟩)
      have e2 : ((toPs ds).any fun z => PyData.eqv z (toP a)) = ds.any fun z => eqD z a := by
        rw [toPs_map, List.any_map]
        rfl
      rw [e2]
      exact k B H _ (.refl B) R rfl
    · cases e
  · split at e
    · rename_i ds q
      rw [Bool.and_eq_true] at q
      cases e
      obtain ⟨p, vs, rfl, h2, h3⟩ := vb
      obtain ⟨g1, g2⟩ := in_any (flat_view va q.1) q.1 h3 q.2
      refine .inl (.inr ⟨p, vs, rfl, .inr (hK ▸ sqT_mono R.lv.up h2), flat_v (flat_view va q.1) q.1, g1, ?_⟩)
      rw [g2]
      exact k B H _ (.refl B) R rfl
    · cases e
  · rename_i i j
    cases e
    exact .inr ⟨i, j, va, vb, k B H _ (.refl B) R rfl⟩
  · cases e
theorem ok_in [g : Gd X c] (hu : X.A.units + 65 < cLine) : Ok2 X c (compareOp .In) (fIn false) := ⟨_, ((op_inD hu).or op_in_seq).or op_in_str, fun B σ H st fs x y a b d Q R va vb e k => in_go (neg := false) R va vb e k⟩
theorem ok_notin [g : Gd X c] (hu : X.A.units + 65 < cLine) : Ok2 X c (compareOp .NotIn) (fIn true) := ⟨_, ((op_notInD hu).or op_notIn_seq).or op_notin_str, fun B σ H st fs x y a b d Q R va vb e k => in_go (neg := true) R va vb e k⟩
/-! ### is -/
@[simp] def fIsN (neg : Bool) : D → D → Option D
  | .non, .non => some (.bl (!neg))
  | .bl a, .bl b => some (.bl (if neg then !decide (a = b) else decide (a = b)))
  | .non, _ => none
  | _, .non => some (.bl neg)
  | _, _ => none
theorem isn_go {neg : Bool} {B : Bs} {σ : Sg} {H : Hp} {st : MS} {fs : Fs} {x y : V} {a b d : D} {Q : VK} (R : Rel c B σ H st fs) (va : VD c.n B H a x) (vb : VD c.n B H b y) (e : fIsN neg a b = some d) (k : KD c σ B fs Q d st) :
    (y = .non ∧ Q (.bl (if neg then !decide (x = .non) else decide (x = .non))) H) ∨ (∃ a b : Bool, x = .bl a ∧ y = .bl b ∧ Q (.bl (if neg then !decide (a = b) else decide (a = b))) H) := by
  have key : ∀ bb, x ≠ .non → d = .bl neg → b = .non → y = bb → bb = .non → (y = .non ∧ Q (.bl (if neg then !decide (x = .non) else decide (x = .non))) H) := fun bb h1 h2 _ h4 h5 => by
    subst h2 h5
    refine ⟨h4, ?_⟩
    rw [decide_eq_false h1]
    have := k B H (.bl neg) (.refl B) R rfl
    cases neg <;> exact this
  unfold fIsN at e
  split at e
  · cases e
    refine .inl ⟨vb, ?_⟩
    rw [(show x = .non from va), decide_eq_true rfl]
    have := k B H (.bl (!neg)) (.refl B) R rfl
    cases neg <;> exact this
  · rename_i p q
    cases e
    exact .inr ⟨p, q, va, vb, k B H _ (.refl B) R rfl⟩
  · cases e
  · cases e
    refine .inl (key .non (fun z => ?_) rfl rfl vb rfl)
    subst z
    cases a with
    | non => simp_all
    | bl b => cases (show V.non = .bl b from va)
    | int b => cases (show V.non = .int b from va)
    | str b => cases (show V.non = .str b from va)
    | tup ds => obtain ⟨_, _, z, _⟩ := va; cases z
    | lst ds => obtain ⟨_, _, z, _⟩ := va; cases z
    | dct ks ds => obtain ⟨_, _, z, _⟩ := va; cases z
    | dctT ks ds => obtain ⟨_, _, z, _⟩ := va; cases z
    | ins c fs ds => obtain ⟨_, _, _, _, z, _⟩ := va; cases z
    | live k => obtain ⟨_, z, _⟩ := va; cases z
    | scr k => obtain ⟨_, z, _⟩ := va; cases z
    | tupF k => obtain ⟨_, _, _, z, _⟩ := va; cases z
  · cases e
theorem ok_is : Ok2 X c (compareOp .Is) (fIsN false) := ⟨_, op_isN.or op_isBl, fun B σ H st fs x y a b d Q R va vb e k => isn_go (neg := false) R va vb e k⟩
theorem ok_isnot : Ok2 X c (compareOp .IsNot) (fIsN true) := ⟨_, op_notN.or op_notBl, fun B σ H st fs x y a b d Q R va vb e k => isn_go (neg := true) R va vb e k⟩
end
end Y
namespace Y
open PySem PySem.Spec PyProof.Rows L2
theorem Rel.perm {c : Cn} {B : Bs} {σ : Sg} {H : Hp} {st : MS} {fs fs' : Fs} (r : Rel c B σ H st fs) (p : fs'.Perm fs) : Rel c B σ H st fs' := by
  obtain ⟨ad, τ, h1, h2, h3⟩ := r.sl
  exact ⟨r.ext, r.lv, r.len, ⟨ad, τ, h1, fun i a h => ⟨(h2 i a h).1, fun q hq => (h2 i a h).2 q (p.mem_iff.mp hq)⟩, h3⟩, fun q hq => r.fr q (p.mem_iff.mp hq), (p.map _).nodup_iff.mpr r.fnd⟩
/-- a live thing is written -/
theorem Rel.writeL {c : Cn} {B : Bs} {σ : Sg} {H : Hp} {st : MS} {k : Nat} {a : Addr} {o : HO} {f f' : Fr} {fs : Fs} (r : Rel c B σ H st fs) (hk : st.g[k]? = some f) (hA : B.A k = some a) (hf : FrOk c.n B (upd H a o) a f') :
    Rel c B σ (upd H a o) { st with g := st.g.set k f' } fs := by
  obtain ⟨a', h1, h2, h3⟩ := r.lv.ob k f hk
  rw [hA] at h1
  cases h1
  have hkl : k < st.g.length := (List.getElem?_eq_some_iff.mp hk).1
  have keep : ∀ b u, b ≠ a → H b = some u → upd H a o b = some u := fun b u hb h => by rw [upd_ne hb]; exact h
  have th : ∀ b, H b ≠ none → upd H a o b ≠ none := fun b h => by
    by_cases hb : b = a
    · rw [hb, upd_same]; simp
    · rw [upd_ne hb]; exact h
  have fne : ∀ b, Free c B H b → b ≠ a := fun b f1 e => f1.nl k (by rw [e]; exact hA)
  have hw : Own o := by
    obtain ⟨o', e, w⟩ := hf.own
    rw [upd_same] at e
    cases e
    exact w
  obtain ⟨oa, hoa, wa⟩ := h3.own
  have nfree : ∀ b, Free c B H b → Free c B (upd H a o) b := fun b f1 => ⟨f1.h0, f1.nl, f1.hs, by rw [upd_ne (fne b f1)]; exact f1.ow⟩
  have tup : ∀ b xs, upd H a o b = some (.tup xs) → c.Hst b = none ∨ c.Hst b = some (.tup xs) := fun b xs h => by
    by_cases hb : b = a
    · rw [hb, upd_same] at h
      cases h
      exact hw.elim
    · rw [upd_ne hb] at h
      exact r.ext.tu b xs h
  refine ⟨⟨r.ext.le, r.ext.n0, r.ext.nl, fun b u h w z hk' => keep b u ?_ (r.ext.fr b u h w z hk'), fun b h => th b (r.ext.tr b h), tup⟩, ⟨tabs_own r.lv.tb hoa wa, fun b u h => keep b u (ne_of_none h h2) (r.lv.sub b u h), r.lv.inj, fun j b h => by rw [List.length_set]; exact r.lv.dom j b h, fun j f2 h => ?_⟩, r.len, ?_, fun p hp => ?_, r.fnd⟩
  · intro e
    subst e
    rcases r.ext.nl k b hA with z | z
    · exact hk' k z
    · rw [z] at h; cases h
  · by_cases e : k = j
    · subst e
      have h' : (st.g.set k f')[k]? = some f2 := h
      rw [List.getElem?_set_self hkl] at h'
      cases h'
      exact ⟨a, hA, h2, hf⟩
    · have h' : (st.g.set k f')[j]? = some f2 := h
      rw [List.getElem?_set_ne e] at h'
      obtain ⟨b, g1, g2, g3⟩ := r.lv.ob j f2 h'
      have hb : b ≠ a := fun e2 => e (r.lv.inj k j a hA (by rw [← e2]; exact g1))
      exact ⟨b, g1, g2, g3.mono (.refl B) fun u _ hu => keep b u hb hu⟩
  · obtain ⟨ad, τ, h1, h2, h3⟩ := r.sl
    refine ⟨ad, τ, h1, fun i b h => ⟨nfree b (h2 i b h).1, (h2 i b h).2⟩, fun i sv h => ?_⟩
    obtain ⟨v, e, q⟩ := h3 i sv h
    refine ⟨v, e, ?_⟩
    cases sv with
    | d x => exact q
    | m f' =>
      obtain ⟨b, e1, e2, e3⟩ := q
      exact ⟨b, e1, e2, e3.mono (.refl B) fun u _ hu => keep b u (fne b (h2 i b e1).1) hu⟩
  · obtain ⟨g1, g2⟩ := r.fr p hp
    exact ⟨nfree _ g1, g2.mono (.refl B) fun u _ hu => keep p.1 u (fne _ g1) hu⟩
section
variable {X : Cx} {c : Cn} {W : WX} {tg it e a b : Expr} {es : List Expr} {pos : Pos} {vs : List Nat}
/-! ### a thing that is written: a slot's own, a live one -/
@[simp] def thing : E1 → MS → Option Fr
  | .s i, st => match st.sl[i]? with
    | some (some (.m f)) => some f
    | _ => none
  | .d (.live k), st => st.g[k]?
  | _, _ => none
@[simp] def putT : E1 → Fr → MS → MS
  | .s i, f, st => { st with sl := st.sl.set i (some (.m f)) }
  | .d (.live k), f, st => { st with g := st.g.set k f }
  | _, _, st => st
theorem thing_ok {B : Bs} {σ : Sg} {H : Hp} {st : MS} {fs : Fs} {e : E1} {f : Fr} {v : V} (r : Rel c B σ H st fs) (i : IsE c.n B σ v e) (h : thing e st = some f) :
    ∃ a, v = .ref a ∧ FrOk c.n B H a f ∧ ∀ o f', FrOk c.n B (upd H a o) a f' → Rel c B σ (upd H a o) (putT e f' st) fs := by
  cases e with
  | s j =>
    have i' : σ[j]? = some (some v) := i
    cases q : st.sl[j]? with
    | none => simp [thing, q] at h
    | some o =>
      cases o with
      | none => simp [thing, q] at h
      | some sv =>
        cases sv with
        | d y => simp [thing, q] at h
        | m f2 =>
          simp [thing, q] at h
          subst h
          obtain ⟨a, rfl, r2⟩ := r.free q i'
          refine ⟨a, rfl, (r2.fr _ List.mem_cons_self).2, fun o f' hf => ?_⟩
          have r3 := (r2.writeF hf).putback i'
          have e3 : ({ sl := (st.sl.set j none).set j (some (SV.m f')), g := st.g } : MS) = { st with sl := st.sl.set j (some (SV.m f')) } := by rw [List.set_set]
          show Rel c B σ (upd H a o) { st with sl := st.sl.set j (some (SV.m f')) } fs
          rw [← e3]
          exact r3
  | d x =>
    cases x with
    | live k =>
      have h' : st.g[k]? = some f := h
      obtain ⟨a, rfl, hA, h3⟩ := live_view r i h'
      exact ⟨a, rfl, h3, fun o f' hf => r.writeL h' hA hf⟩
    | _ => cases h
/-- xs.append(e) -/
@[simp ↓] def mAppend (mx : Mo E1) (me : Mo D) (st : MS) : RSt := (mx st).st fun x s1 => match thing x s1 with
  | some (.l _) => (me s1).st fun d s2 => match thing x s2 with
    | some (.l ds) => if decide (ds.length < lim) = true then .nx (putT x (.l (ds ++ [d])) s2) else .bad
    | _ => .bad
  | _ => .bad
theorem lim_lt {n : Nat} (h : decide (n < lim) = true) : n < sizeLine := by
  have := of_decide_eq_true h
  rw [sizeLine_eq]
  unfold lim at this
  omega
theorem se_append [g : Gd X c] {mx : Mo E1} {me : Mo D} {p1 p2 : Pos} (hx : EE X c W a mx) (he : DE X c W b me)
    (hbase : attributeBase a "append" X.env (eval a X.env) = eval a X.env := by rfl)
    (hfew : ((backTo p2 (starEach [b] X.env)).all (fun x => !x.1) && (backToKw p2 (keywordEach [] X.env)).all (fun x => x.1.isSome)
      && decide ([b].length + ([] : List Keyword).length + (if ([] : List Keyword).isEmpty then 0 else 1) < 30)) = true := by rfl)
    (hline : (p1.endLine == p2.line) = true := by rfl) (hs : starEach [b] X.env = (false, eval b X.env) :: starEach [] X.env := by rfl) (hplain : (backTo p2 (starEach [] X.env)).any (·.1) = false := by rfl)
    (hsw : swapsWith (.Call (.Attribute a "append" p1) [b] [] p2) none pos.line X.env = pure false := by rfl) :
    SE X c W (.Expr (.Call (.Attribute a "append" p1) [b] [] p2) pos) (mAppend mx me) :=
  ⟨psImp (ps_expr (pe_bm PySem.F.plainAttrs_list PySem.F.slot_list_append PySem.F.type_list_append mt_append hx.pe (pa_cons he.pe pa_nil hs) hbase hfew hline hs hplain) hsw) fun D σ H ⟨B, st, r, p⟩ => ⟨B, st, [], r, (PostS.bind p).up (.refl B) fun x s1 k B1 H1 v1 l1 r1 i1 => by
    have hK : c.n.K = X.K := by rw [g.n]
    cases q : thing x s1 with
    | none => rw [q] at k; exact k.elim
    | some f =>
      rw [q] at k
      cases f with
      | l ds =>
        obtain ⟨p, rfl, ⟨vs, hvs, _⟩, _⟩ := thing_ok r1 i1 q
        refine ⟨.inl ⟨rfl, vs, .inl (.inl hvs)⟩, B1, s1, [], r1, (PostS.bind (σ := σ) k).up l1 fun d s2 k2 B2 H2 v2 l2 r2 i2 => ?_⟩
        cases q2 : thing x s2 with
        | none => rw [q2] at k2; exact k2.elim
        | some f2 =>
          rw [q2] at k2
          cases f2 with
          | l ds2 =>
            simp only at k2
            split at k2
            · rename_i hl
              obtain ⟨p', e', ⟨ws, hws, iws⟩, wr⟩ := thing_ok r2 (i1.mono l2) q2
              cases e'
              refine ⟨p, ws, v2, rfl, rfl, hws, by rw [iws.length]; exact lim_lt hl, ?_⟩
              exact k2 B2 σ _ (l1.trans l2) (wr _ (.l (ds2 ++ [d])) ⟨ws ++ [v2], upd_same, iws.append ⟨v2, [], rfl, i2, rfl⟩⟩)
            · exact k2.elim
          | _ => exact k2.elim
      | _ => exact k.elim⟩⟩
/-- xs[i] = e -/
@[simp ↓] def mSetIx (me : Mo D) (mx mi : Mo E1) (st : MS) : RSt := (me st).st fun d s1 => (mx s1).st fun x s2 => (mi s2).st fun i s3 => match val i s3, thing x s3 with
  | some (.int k), some (.l ds) => (match ixN ds.length k with
    | some j => .nx (putT x (.l (ds.set j d)) s3)
    | none => .bad)
  | _, _ => .bad
theorem se_setIx [g : Gd X c] {v : Expr} {me : Mo D} {mx mi : Mo E1} {p : Pos} (hv : DE X c W v me) (ha : EE X c W a mx) (hb : EE X c W b mi)
    (has : ∀ w, assign (.Subscript a b p) X.env w = (do
      let ov ← holding [w] (eval a X.env)
      let iv ← holding [w, ov] (eval b X.env)
      standAt p
      holding [w, ov, iv] (setItem ov iv w)
      release [w, ov, iv] []) := by intro _; rfl)
    (hs : swapsWithSole [.Subscript a b p] v pos.line X.env = pure false := by rfl) (hw : swappedStores [.Subscript a b p] v X.env = pure none := by rfl)
    (h1 : (assignEach [.Subscript a b p] X.env).map (·.2) = [assign (.Subscript a b p) X.env] := by rfl) : SE X c W (.Assign [.Subscript a b p] v pos) (mSetIx me mx mi) :=
  ⟨psImp (ps_asg hv.pe (pg_sub ha.pe hb.pe set_list has) hs hw h1) fun D σ H ⟨B, st, r, p⟩ => ⟨B, st, [], r, (PostS.bind p).up (.refl B) fun d s1 k B1 H1 v1 l1 r1 i1 =>
    ⟨B1, s1, [], r1, (PostS.bind (σ := σ) k).up l1 fun x s2 k2 B2 H2 v2 l2 r2 i2 => ⟨B2, s2, [], r2, (PostS.bind (σ := σ) k2).up (l1.trans l2) fun i s3 k3 B3 H3 v3 l3 r3 i3 => by
      split at k3
      · rename_i kk ds e1 e2
        split at k3
        · rename_i j ej
          obtain ⟨p, e', ⟨ws, hws, iws⟩, wr⟩ := thing_ok r3 (i2.mono l3) e2
          subst e'
          refine ⟨p, ws, kk, j, rfl, val_ok r3 i3 e1, hws, by rw [iws.length]; exact ej, ?_⟩
          exact k3 B3 σ _ ((l1.trans l2).trans l3) (wr _ (.l (ds.set j d)) ⟨ws.set j v1, upd_same, IsDs.set (IsD.mono (l2.trans l3) d v1 i1) j iws⟩)
        · exact k3.elim
      · exact k3.elim⟩⟩⟩⟩
/-! ### a, b = x, y -/
inductive PV where
  | d (x : D) | f (fr : Fr)
@[simp ↓] def pvOf : EX → MS → Rs PV
  | .f fr, s => .ok (.f fr) s
  | .e e, s => (keepE e s).then fun x s => .ok (.d x) s
def PVk (c : Cn) (B : Bs) : PV → V → Option (Addr × Fr) → Prop
  | .d x, v, o => o = none ∧ IsD c.n B x v
  | .f fr, v, o => ∃ a, v = .ref a ∧ o = some (a, fr)
def oFs : Option (Addr × Fr) → Fs → Fs
  | none, fs => fs
  | some p, fs => p :: fs
structure XE1 (X : Cx) (c : Cn) (W : WX) (e : Expr) (m : Mo PV) : Prop where
  pe : PE X e (fun σ H Q => ∃ B st fs, Rel c B σ H st fs ∧ Post c W σ B (m st) fun pv s => ∀ B' H' v o, B.le B' → Rel c B' σ H' s (oFs o fs) → PVk c B' pv v o → Q v H')
@[simp ↓] def mPv (m : Mo EX) (st : MS) : Rs PV := (m st).then pvOf
theorem xe_of {m : Mo EX} (h : GE X c W e m) : XE1 X c W e (mPv m) := ⟨peImp h.pe fun σ H Q ⟨B, st, fs, r, p⟩ => ⟨B, st, fs, r, (Post.bind p).up (.refl B) fun x s k => by
  cases x with
  | f fr => exact fun B' H' a l r' => k B' H' _ (some (a, fr)) l r' ⟨a, rfl, rfl⟩
  | e e =>
    intro B' H' v l r' i
    cases q : keepE e s with
    | ok y s' =>
      obtain ⟨B2, l2, r2, hd⟩ := keepE_pt r' i q
      simp only [pvOf, q, then_ok] at k
      exact k B2 H' v none (l.trans l2) r2 ⟨rfl, hd⟩
    | ex y as s' => exact absurd q keepE_ex
    | bad =>
      simp only [pvOf, q, then_bad] at k
      exact k.elim⟩⟩
@[simp ↓] def stPv (i : Nat) : PV → MS → MS
  | .d x, s => { s with sl := s.sl.set i (some (.d x)) }
  | .f fr, s => { s with sl := s.sl.set i (some (.m fr)) }
theorem pv_store {B : Bs} {σ : Sg} {H : Hp} {s : MS} {fs : Fs} {pv : PV} {v : V} {o : Option (Addr × Fr)} {i : Nat} (r : Rel c B σ H s (oFs o fs)) (k : PVk c B pv v o) (hi : i < c.nn) : Rel c B (σ.set i (some v)) H (stPv i pv s) fs := by
  cases pv with
  | d x =>
    obtain ⟨rfl, h⟩ := k
    exact r.store (by rw [r.len]; exact hi) h
  | f fr =>
    obtain ⟨a, rfl, rfl⟩ := k
    exact r.storeF (by rw [r.len]; exact hi)
theorem PVk.mono {B B' : Bs} {pv : PV} {v : V} {o : Option (Addr × Fr)} (h : PVk c B pv v o) (l : B.le B') : PVk c B' pv v o := by
  cases pv with
  | d x => exact ⟨h.1, IsD.mono l x v h.2⟩
  | f fr => exact h
theorem oFs_swap {o o' : Option (Addr × Fr)} {fs : Fs} : (oFs o (oFs o' fs)).Perm (oFs o' (oFs o fs)) := by
  cases o <;> cases o' <;> first | exact .refl _ | exact .swap ..
@[simp ↓] def mPar2 (i j : Nat) (m n : Mo PV) (st : MS) : RSt := (m st).st fun x s1 => (n s1).st fun y s2 => .nx (stPv j y (stPv i x s2))
theorem se_par2 [g : Gd X c] (i j : Nat) {x y : Str} {m n : Mo PV} {px py pt pt2 : Pos} {kt k2 : Nat} (hi : X.N[i]? = some x) (hj : X.N[j]? = some y) (hij : i ≠ j) (hx : X.env.scope.names.lookup x = some .local) (hy : X.env.scope.names.lookup y = some .local)
    (ha : XE1 X c W a m) (hb : XE1 X c W b n) (h1 : starEach [a, b] X.env = (false, eval a X.env) :: starEach [b] X.env := by rfl) (h2 : starEach [b] X.env = (false, eval b X.env) :: starEach [] X.env := by rfl)
    (hw : swappedStores [.Tuple [.Name x px, .Name y py] kt pt] (.Tuple [a, b] k2 pt2) X.env = pure (some [x, y]) := by rfl)
    (hs : swapsWithSole [.Tuple [.Name x px, .Name y py] kt pt] (.Tuple [a, b] k2 pt2) pos.line X.env = pure false := by rfl) : SE X c W (.Assign [.Tuple [.Name x px, .Name y py] kt pt] (.Tuple [a, b] k2 pt2) pos) (mPar2 i j m n) := by
  have li : i < c.nn := by rw [g.nn]; exact (List.getElem?_eq_some_iff.mp hi).1
  have lj : j < c.nn := by rw [g.nn]; exact (List.getElem?_eq_some_iff.mp hj).1
  exact ⟨psImp (ps_par g.calm g.nd hi hj hij hx hy (pa_cons ha.pe (pa_cons hb.pe pa_nil h2) h1) hw hs) fun D σ H ⟨B, st, r, p⟩ => ⟨B, st, [], r, (PostS.bind p).up (.refl B) fun u s1 k B1 H1 v1 o1 l1 r1 i1 =>
    ⟨B1, s1, _, r1, (PostS.bind (σ := σ) k).up l1 fun w s2 k2 B2 H2 v2 o2 l2 r2 i2 => ⟨v1, v2, rfl, k2 B2 _ H2 (l1.trans l2) (pv_store (pv_store (r2.perm oFs_swap) (i1.mono l2) li) i2 lj)⟩⟩⟩⟩
@[simp ↓] def mPar3 (i j k : Nat) (m n o : Mo PV) (st : MS) : RSt := (m st).st fun x s1 => (n s1).st fun y s2 => (o s2).st fun z s3 => .nx (stPv k z (stPv j y (stPv i x s3)))
theorem se_par3 [g : Gd X c] (i j k : Nat) {x y z : Str} {cc : Expr} {m n o : Mo PV} {px py pz pt pt2 : Pos} {kt k2 : Nat} (hi : X.N[i]? = some x) (hj : X.N[j]? = some y) (hk : X.N[k]? = some z) (hij : i ≠ j) (hik : i ≠ k) (hjk : j ≠ k)
    (hx : X.env.scope.names.lookup x = some .local) (hy : X.env.scope.names.lookup y = some .local) (hz : X.env.scope.names.lookup z = some .local) (ha : XE1 X c W a m) (hb : XE1 X c W b n) (hc : XE1 X c W cc o)
    (h1 : starEach [a, b, cc] X.env = (false, eval a X.env) :: starEach [b, cc] X.env := by rfl) (h2 : starEach [b, cc] X.env = (false, eval b X.env) :: starEach [cc] X.env := by rfl) (h3 : starEach [cc] X.env = (false, eval cc X.env) :: starEach [] X.env := by rfl)
    (hw : swappedStores [.Tuple [.Name x px, .Name y py, .Name z pz] kt pt] (.Tuple [a, b, cc] k2 pt2) X.env = pure (some [x, y, z]) := by rfl)
    (hs : swapsWithSole [.Tuple [.Name x px, .Name y py, .Name z pz] kt pt] (.Tuple [a, b, cc] k2 pt2) pos.line X.env = pure false := by rfl) : SE X c W (.Assign [.Tuple [.Name x px, .Name y py, .Name z pz] kt pt] (.Tuple [a, b, cc] k2 pt2) pos) (mPar3 i j k m n o) := by
  have li : i < c.nn := by rw [g.nn]; exact (List.getElem?_eq_some_iff.mp hi).1
  have lj : j < c.nn := by rw [g.nn]; exact (List.getElem?_eq_some_iff.mp hj).1
  have lk : k < c.nn := by rw [g.nn]; exact (List.getElem?_eq_some_iff.mp hk).1
  refine ⟨psImp (ps_par3 g.calm g.nd hi hj hk hij hik hjk hx hy hz (pa_cons ha.pe (pa_cons hb.pe (pa_cons hc.pe pa_nil h3) h2) h1) hw hs) fun D σ H ⟨B, st, r, p⟩ => ⟨B, st, [], r, (PostS.bind p).up (.refl B) fun u s1 k B1 H1 v1 o1 l1 r1 i1 =>
    ⟨B1, s1, _, r1, (PostS.bind (σ := σ) k).up l1 fun w s2 k2 B2 H2 v2 o2 l2 r2 i2 => ⟨B2, s2, _, r2, (PostS.bind (σ := σ) k2).up (l1.trans l2) fun w' s3 k3 B3 H3 v3 o3 l3 r3 i3 => ⟨v1, v2, v3, rfl, ?_⟩⟩⟩⟩⟩
  refine k3 B3 _ H3 ((l1.trans l2).trans l3) (pv_store (pv_store (pv_store (r3.perm ?_) (i1.mono (l2.trans l3)) li) (i2.mono l3) lj) i3 lk)
  cases o1 <;> cases o2 <;> cases o3 <;> first
    | exact .refl _
    | exact .swap ..
    | exact ((List.Perm.swap _ _ _).trans ((List.Perm.swap _ _ _).cons _)).trans (.swap ..)
/-- any target = any value -/
@[simp ↓] def mAsg (m : Mo D) (g : Gt) (st : MS) : RSt := (m st).st fun x s => match g x s with
  | some s' => .nx s'
  | none => .bad
theorem se_asg {m : Mo D} {g : Gt} (h : DE X c W e m) (hg : TGE X c vs tg g) (hs : swapsWithSole [tg] e pos.line X.env = pure false := by rfl) (hw : swappedStores [tg] e X.env = pure none := by rfl)
    (h1 : (assignEach [tg] X.env).map (·.2) = [assign tg X.env] := by rfl) : SE X c W (.Assign [tg] e pos) (mAsg m g) :=
  ⟨psImp (ps_asg h.pe hg.pg hs hw h1) fun D σ H ⟨B, st, r, p⟩ => ⟨B, st, [], r, (PostS.bind p).up (.refl B) fun x s k B1 H1 v1 l1 r1 i1 => ⟨B1, s, x, [], r1, i1, by
    cases q : g x s with
    | none => rw [q] at k; exact k
    | some s' =>
      rw [q] at k
      exact fun B2 σ2 H2 l2 r2 _ => k B2 σ2 H2 (l1.trans l2) r2⟩⟩⟩
/-! ### built-ins -/
theorem paired1 {α β : Type} {R : α → β → Prop} {x : α} {ys : List β} (h : Paired R [x] ys) : ∃ y, ys = [y] ∧ R x y := by
  cases h with
  | cons r t =>
    cases t
    exact ⟨_, rfl, r⟩
theorem paired2 {α β : Type} {R : α → β → Prop} {x x' : α} {ys : List β} (h : Paired R [x, x'] ys) : ∃ y y', ys = [y, y'] ∧ R x y ∧ R x' y' := by
  cases h with
  | cons r t =>
    obtain ⟨y, rfl, r'⟩ := paired1 t
    exact ⟨_, _, rfl, r, r'⟩
@[simp] def dInt (i : Int) : Option DR := some (.d (.int i))
@[simp] def dBl (b : Bool) : Option DR := some (.d (.bl b))
@[simp] def fLen : List D → Option DR
  | [.lst ds] => dInt ds.length
  | [.tup ds] => dInt ds.length
  | [.str z] => if decide (z.length ≤ lim) = true then dInt z.length else none
  | _ => none
theorem ok_len [g : Gd X c] : OkC X c (.builtin "len") fLen := ⟨_, call_len, fun B σ H st fs vs ds d Q R va e k => by
  have hK : c.n.K = X.K := by rw [g.n]
  unfold fLen at e
  split at e
  · obtain ⟨v, rfl, h⟩ := paired1 va
    cases e
    obtain ⟨p, ws, rfl, h2, h3⟩ := h
    rw [← h3.length] at k
    exact ⟨_, _, rfl, .inl ⟨ws, .inl h2, rfl⟩, k B H _ (.refl B) R rfl⟩
  · obtain ⟨v, rfl, h⟩ := paired1 va
    cases e
    obtain ⟨p, ws, rfl, h2, h3⟩ := h
    rw [← h3.length] at k
    exact ⟨_, _, rfl, .inr ⟨ws, hK ▸ sqT_mono R.lv.up h2, rfl⟩, k B H _ (.refl B) R rfl⟩
  · split at e
    · rename_i q
      obtain ⟨v, rfl, h⟩ := paired1 va
      cases e
      cases (show v = _ from h)
      exact ⟨_, _, rfl, ⟨lim_ok q, rfl⟩, k B H _ (.refl B) R rfl⟩
    · cases e
  · cases e⟩
@[simp] def fAbs : List D → Option DR
  | [.int i] => dInt (if i < 0 then -i else i)
  | _ => none
theorem ok_abs : OkC X c (.builtin "abs") fAbs := ⟨_, call_abs, fun B σ H st fs vs ds d Q R va e k => by
  unfold fAbs at e
  split at e
  · obtain ⟨v, rfl, h⟩ := paired1 va
    cases e
    cases (show v = _ from h)
    exact ⟨_, rfl, k B H _ (.refl B) R rfl⟩
  · cases e⟩
@[simp] def fInt : List D → Option DR
  | [.int i] => dInt i
  | [.bl b] => dInt (if b then 1 else 0)
  | _ => none
theorem ok_int : OkC X c (.type "int") fInt := ⟨_, call_int1, fun B σ H st fs vs ds d Q R va e k => by
  unfold fInt at e
  split at e
  · obtain ⟨v, rfl, h⟩ := paired1 va
    cases e
    cases (show v = _ from h)
    exact .inl ⟨_, rfl, k B H _ (.refl B) R rfl⟩
  · obtain ⟨v, rfl, h⟩ := paired1 va
    cases e
    cases (show v = _ from h)
    exact .inr ⟨_, rfl, k B H _ (.refl B) R rfl⟩
  · cases e⟩
@[simp] def fMax2 : List D → Option DR
  | [.int i, .int j] => dInt (if j > i then j else i)
  | _ => none
@[simp] def fMin2 : List D → Option DR
  | [.int i, .int j] => dInt (if j < i then j else i)
  | _ => none
theorem ok_max2 [g : Gd X c] : OkC X c (.builtin "max") fMax2 := ⟨_, call_max2 g.calm, fun B σ H st fs vs ds d Q R va e k => by
  unfold fMax2 at e
  split at e
  · obtain ⟨v, w, rfl, h, h'⟩ := paired2 va
    cases e
    cases (show v = _ from h)
    cases (show w = _ from h')
    exact ⟨_, _, rfl, k B H _ (.refl B) R rfl⟩
  · cases e⟩
theorem ok_min2 [g : Gd X c] : OkC X c (.builtin "min") fMin2 := ⟨_, call_min2 g.calm, fun B σ H st fs vs ds d Q R va e k => by
  unfold fMin2 at e
  split at e
  · obtain ⟨v, w, rfl, h, h'⟩ := paired2 va
    cases e
    cases (show v = _ from h)
    cases (show w = _ from h')
    exact ⟨_, _, rfl, k B H _ (.refl B) R rfl⟩
  · cases e⟩
/-- all ints; all bools -/
def intsOf : List D → Option (List Int)
  | [] => some []
  | .int i :: ds => (intsOf ds).map (i :: ·)
  | _ => none
def blsOf : List D → Option (List Bool)
  | [] => some []
  | .bl i :: ds => (blsOf ds).map (i :: ·)
  | _ => none
theorem intsOf_ok : ∀ {ds : List D} {ns : List Int}, intsOf ds = some ns → ds = ns.map D.int
  | [], ns, h => by cases h; rfl
  | .int i :: ds, ns, h => by
    unfold intsOf at h
    cases q : intsOf ds with
    | none => rw [q] at h; cases h
    | some ms =>
      rw [q] at h
      cases h
      rw [List.map_cons, intsOf_ok q]
  | .non :: ds, ns, h => by cases h
  | .bl _ :: ds, ns, h => by cases h
  | .str _ :: ds, ns, h => by cases h
  | .tup _ :: ds, ns, h => by cases h
  | .lst _ :: ds, ns, h => by cases h
  | .dct _ _ :: ds, ns, h => by cases h
  | .dctT _ _ :: ds, ns, h => by cases h
  | .ins _ _ _ :: ds, ns, h => by cases h
  | .live _ :: ds, ns, h => by cases h
  | .scr _ :: ds, ns, h => by cases h
@[simp] theorem intsOf_map (ns : List Int) : intsOf (ns.map D.int) = some ns := by
  induction ns with
  | nil => rfl
  | cons n ns ih => rw [List.map_cons, intsOf, ih]; rfl
theorem blsOf_ok : ∀ {ds : List D} {ns : List Bool}, blsOf ds = some ns → ds = ns.map D.bl
  | [], ns, h => by cases h; rfl
  | .bl i :: ds, ns, h => by
    unfold blsOf at h
    cases q : blsOf ds with
    | none => rw [q] at h; cases h
    | some ms =>
      rw [q] at h
      cases h
      rw [List.map_cons, blsOf_ok q]
  | .non :: ds, ns, h => by cases h
  | .int _ :: ds, ns, h => by cases h
  | .str _ :: ds, ns, h => by cases h
  | .tup _ :: ds, ns, h => by cases h
  | .lst _ :: ds, ns, h => by cases h
  | .dct _ _ :: ds, ns, h => by cases h
  | .dctT _ _ :: ds, ns, h => by cases h
  | .ins _ _ _ :: ds, ns, h => by cases h
  | .live _ :: ds, ns, h => by cases h
  | .scr _ :: ds, ns, h => by cases h
@[simp] theorem blsOf_map (ns : List Bool) : blsOf (ns.map D.bl) = some ns := by
  induction ns with
  | nil => rfl
  | cons n ns ih => rw [List.map_cons, blsOf, ih]; rfl
theorem IsDs.bls {n : Kn} {B : Bs} : ∀ {ns : List Bool} {vs : List V}, IsDs n B (ns.map D.bl) vs → vs = ns.map V.bl
  | [], vs, h => h
  | i :: ns, vs, h => by
    obtain ⟨w, r, rfl, h2, h3⟩ := h
    rw [IsDs.bls h3, (show w = .bl i from h2)]
    rfl
@[simp] def fSum : List D → Option DR
  | [.lst ds] => (intsOf ds).bind fun ns => dInt ns.sum
  | _ => none
theorem ok_sum [g : Gd X c] : OkC X c (.builtin "sum") fSum := ⟨_, cr_sum g.calm, fun B σ H st fs vs ds d Q R va e k => by
  have hK : c.n.K = X.K := by rw [g.n]
  unfold fSum at e
  split at e
  · rename_i ds
    obtain ⟨v, rfl, p, ws, rfl, h2, h3⟩ := paired1 va
    cases q : intsOf ds with
    | none => rw [q] at e; cases e
    | some ns =>
      rw [q] at e
      have e' : some (DR.d (.int ns.sum)) = some d := e
      cases e'
      rw [intsOf_ok q] at h3
      rw [h3.ints] at h2
      exact ⟨p, ns, rfl, .inl h2, k B H _ (.refl B) R rfl⟩
  · cases e⟩
@[simp] def fAll : List D → Option DR
  | [.lst ds] => (blsOf ds).bind fun ns => dBl (ns.all id)
  | _ => none
theorem ok_all [g : Gd X c] : OkC X c (.builtin "all") fAll := ⟨_, cr_all g.calm, fun B σ H st fs vs ds d Q R va e k => by
  have hK : c.n.K = X.K := by rw [g.n]
  unfold fAll at e
  split at e
  · rename_i ds
    obtain ⟨v, rfl, p, ws, rfl, h2, h3⟩ := paired1 va
    cases q : blsOf ds with
    | none => rw [q] at e; cases e
    | some ns =>
      rw [q] at e
      have e' : some (DR.d (.bl (ns.all id))) = some d := e
      cases e'
      rw [blsOf_ok q] at h3
      rw [h3.bls] at h2
      exact ⟨p, ns, rfl, .inl h2, k B H _ (.refl B) R rfl⟩
  · cases e⟩
@[simp] def fAny : List D → Option DR
  | [.lst ds] => (blsOf ds).bind fun ns => dBl (ns.any id)
  | _ => none
theorem ok_any [g : Gd X c] : OkC X c (.builtin "any") fAny := ⟨_, cr_any g.calm, fun B σ H st fs vs ds d Q R va e k => by
  have hK : c.n.K = X.K := by rw [g.n]
  unfold fAny at e
  split at e
  · rename_i ds
    obtain ⟨v, rfl, p, ws, rfl, h2, h3⟩ := paired1 va
    cases q : blsOf ds with
    | none => rw [q] at e; cases e
    | some ns =>
      rw [q] at e
      have e' : some (DR.d (.bl (ns.any id))) = some d := e
      cases e'
      rw [blsOf_ok q] at h3
      rw [h3.bls] at h2
      exact ⟨p, ns, rfl, .inl h2, k B H _ (.refl B) R rfl⟩
  · cases e⟩
@[simp] def fTuple : List D → Option DR
  | [.lst ds] => some (.d (.tup ds))
  | [.tup ds] => some (.d (.tup ds))
  | _ => none
theorem ok_tuple [g : Gd X c] : OkC X c (.type "tuple") fTuple := ⟨_, call_tuple_of, fun B σ H st fs vs ds d Q R va e k => by
  have hK : c.n.K = X.K := by rw [g.n]
  unfold fTuple at e
  split at e
  · rename_i ds
    cases e
    obtain ⟨v, rfl, p, ws, rfl, h2, h3⟩ := paired1 va
    refine ⟨p, ws, rfl, .inl ⟨.inl h2, fun l hl => ?_⟩⟩
    obtain ⟨le, r2⟩ := R.newD (o := .tup ws) hl
    exact k _ _ _ le r2 ⟨l, ws, rfl, .inl (.inl upd_same), h3.mono le _ _⟩
  · rename_i ds
    cases e
    obtain ⟨v, rfl, p, ws, rfl, h2, h3⟩ := paired1 va
    exact ⟨p, ws, rfl, .inr ⟨hK ▸ sqT_mono R.lv.up h2, k B H _ (.refl B) R ⟨p, ws, rfl, h2, h3⟩⟩⟩
  · cases e⟩
@[simp] def fList : List D → Option DR
  | [.lst ds] => some (.f (.l ds))
  | [.tup ds] => some (.f (.l ds))
  | _ => none
theorem ok_list [g : Gd X c] : OkC X c (.type "list") fList := ⟨_, call_list_of, fun B σ H st fs vs ds d Q R va e k => by
  have hK : c.n.K = X.K := by rw [g.n]
  unfold fList at e
  split at e
  · rename_i ds
    cases e
    obtain ⟨v, rfl, p, ws, rfl, h2, h3⟩ := paired1 va
    exact ⟨p, ws, rfl, .inl (.inl h2), fun l hl => k B _ l (.refl B) (R.newF (f := .l ds) hl ⟨ws, upd_same, h3⟩)⟩
  · rename_i ds
    cases e
    obtain ⟨v, rfl, p, ws, rfl, h2, h3⟩ := paired1 va
    exact ⟨p, ws, rfl, .inr (hK ▸ sqT_mono R.lv.up h2), fun l hl => k B _ l (.refl B) (R.newF (f := .l ds) hl ⟨ws, upd_same, h3⟩)⟩
  · cases e⟩
/-- ints in order -/
def insI (x : Int) : List Int → List Int
  | [] => [x]
  | y :: r => if x ≤ y then x :: y :: r else y :: insI x r
def sortI : List Int → List Int
  | [] => []
  | x :: r => insI x (sortI r)
theorem insI_perm (x : Int) : ∀ l : List Int, (insI x l).Perm (x :: l)
  | [] => .refl _
  | y :: r => by
    unfold insI
    split
    · exact .refl _
    · exact ((insI_perm x r).cons y).trans (.swap x y r)
theorem insI_sorted {x : Int} : ∀ {l : List Int}, l.Pairwise (· ≤ ·) → (insI x l).Pairwise (· ≤ ·)
  | [], _ => by simp [insI]
  | y :: r, h => by
    unfold insI
    have h' := List.pairwise_cons.mp h
    split
    · rename_i q
      refine List.pairwise_cons.mpr ⟨fun z hz => ?_, h⟩
      rcases List.mem_cons.mp hz with rfl | hz
      · exact q
      · exact Int.le_trans q (h'.1 z hz)
    · rename_i q
      refine List.pairwise_cons.mpr ⟨fun z hz => ?_, insI_sorted h'.2⟩
      rcases List.mem_cons.mp ((insI_perm x r).mem_iff.mp hz) with rfl | hz
      · omega
      · exact h'.1 z hz
theorem sortI_perm : ∀ l : List Int, (sortI l).Perm l
  | [] => .refl _
  | x :: r => (insI_perm x (sortI r)).trans ((sortI_perm r).cons x)
theorem sortI_sorted : ∀ l : List Int, (sortI l).Pairwise (· ≤ ·)
  | [] => .nil
  | x :: r => insI_sorted (sortI_sorted r)
theorem sortI_unique {l m : List Int} (p : m.Perm l) (s : m.Pairwise (· ≤ ·)) : m = sortI l := PySem.W.ksm_same (p.trans (sortI_perm l).symm) s (sortI_sorted l)
@[simp] def fSorted : List D → Option DR
  | [.lst ds] => (intsOf ds).bind fun ns => some (.f (.l ((sortI ns).map D.int)))
  | _ => none
theorem ok_sorted [g : Gd X c] : OkC X c (.builtin "sorted") fSorted := ⟨_, cr_sortedI, fun B σ H st fs vs ds d Q R va e k => by
  have hK : c.n.K = X.K := by rw [g.n]
  unfold fSorted at e
  split at e
  · rename_i ds
    obtain ⟨v, rfl, p, ws, rfl, h2, h3⟩ := paired1 va
    cases q : intsOf ds with
    | none => rw [q] at e; cases e
    | some ns =>
      rw [q] at e
      have e' : some (DR.f (.l ((sortI ns).map D.int))) = some d := e
      cases e'
      rw [intsOf_ok q] at h3
      rw [h3.ints] at h2
      refine ⟨p, ns, rfl, .inl h2, fun ns' l hp hs hl => ?_⟩
      cases sortI_unique hp hs
      exact k B _ l (.refl B) (R.newF (f := .l _) hl ⟨_, upd_same, IsDs.of_ints⟩)
  · cases e⟩
/-! ### isinstance(x, T), T a built-in class -/
inductive Ty where
  | non | bl | int | str | tup | lst | dct
  deriving DecidableEq
def Ty.name : Ty → String
  | .non => "NoneType" | .bl => "bool" | .int => "int" | .str => "str" | .tup => "tuple" | .lst => "list" | .dct => "dict"
@[simp] def tyN : D → Option Ty
  | .non => some .non
  | .bl _ => some .bl
  | .int _ => some .int
  | .str _ => some .str
  | .tup _ => some .tup
  | .lst _ => some .lst
  | .dct _ _ => some .dct
  | .dctT _ _ => some .dct
  | _ => none
@[simp] def tyIs : Ty → Ty → Bool
  | .bl, .bl => true | .int, .int => true | .str, .str => true | .tup, .tup => true | .lst, .lst => true | .dct, .dct => true
  | .bl, .int => true
  | _, _ => false
@[simp] def isT (T : Ty) (d : D) : Option D := match tyN d with
  | some t => some (.bl (tyIs t T))
  | none => none
theorem kit_all (t T : Ty) (h : T ≠ .non) : kitB t.name T.name = some (tyIs t T) := by
  cases T <;> first
    | exact absurd rfl h
    | (cases t <;> decide +kernel)
theorem rd_ty {n : Kn} {H : Hp} {a : Addr} {kvs : List (Key × V)} (h : Rd H a (.dK kvs)) : TyX n.K H (.ref a) (.type "dict") := by
  rcases h with h | ⟨o, h⟩
  · exact .base (.dK h)
  · exact .fDict h
theorem ty_ok {n : Kn} {B : Bs} {H : Hp} (e : Up B.H0 H) {d : D} {v : V} {t : Ty} (h : VD n B H d v) (ht : tyN d = some t) (hd : ∀ ks ds, d ≠ .dctT ks ds) : TyX n.K H v (.type t.name) := by
  cases d with
  | non => cases ht; cases (show v = .non from h); exact .base .non
  | bl b => cases ht; cases (show v = .bl b from h); exact .base (.bl b)
  | int b => cases ht; cases (show v = .int b from h); exact .base (.int b)
  | str b => cases ht; cases (show v = .str b from h); exact .base (.str b)
  | tup ds =>
    cases ht
    obtain ⟨a, vs, rfl, h2, _⟩ := h
    rcases sqT_mono e h2 with (h2 | ⟨o, h2⟩) | ⟨o, _, _, h2, h3, _⟩
    · exact .base (.tup h2)
    · exact .fTuple h2
    · exact .kTuple h2 h3
  | lst ds =>
    cases ht
    obtain ⟨a, vs, rfl, h2, _⟩ := h
    rcases h2 with h2 | ⟨o, h2⟩
    · exact .base (.lst h2)
    · exact .base (.frz h2)
  | dct ks ds =>
    cases ht
    obtain ⟨a, vs, rfl, h2, _⟩ := h
    exact rd_ty h2
  | dctT ks ds => exact (hd ks ds rfl).elim
  | _ => cases ht
@[simp] def isTd (T : Ty) : D → Option D
  | .dctT _ _ => none
  | d => isT T d
@[simp ↓] def mIsi (T : Ty) (m : Mo E1) (st : MS) : Rs E1 := (m st).then fun e s => opt (((val e s).bind (isTd T)).map E1.d) s
theorem ee_isi [g : Gd X c] {x T : Str} {m : Mo E1} (Ts : Ty) {p pT : Pos} (hTs : Ts ≠ .non) (hg : Gl X x) (hm : X.mg x = none) (hv : bootBuiltins x = some (.builtin "isinstance")) (ha : EE X c W a m) (hgT : Gl X T) (hmT : X.mg T = none) (hvT : bootBuiltins T = some (.type Ts.name)) (hnT : T ≠ "__name__" := by decide) (hdT : (T == ("__debug__" : Str)) = false := by decide) (hn : x ≠ "__name__" := by decide) (hdb : (x == ("__debug__" : Str)) = false := by decide)
    (h1 : starEach [a, .Name T pT] X.env = (false, eval a X.env) :: starEach [.Name T pT] X.env := by rfl) (h2 : starEach [.Name T pT] X.env = (false, eval (.Name T pT) X.env) :: starEach [] X.env := by rfl) (hpl : (backTo pos (starEach [.Name T pT] X.env)).any (·.1) = false := by rfl) :
    EE X c W (.Call (.Name x p) [a, .Name T pT] [] pos) (mIsi Ts m) :=
  ⟨peImp (pe_callB call_isi hg hm hv (pa_cons ha.pe (pa_cons (pe_bltn (v := .ty Ts.name) hgT hmT hvT rfl hnT hdT) pa_nil h2) h1) hn hdb h1 hpl) fun σ H Q ⟨B, st, fs, r, p⟩ => ⟨B, st, fs, r, (Post.bind p).up (.refl B) fun x s k B1 H1 v l1 r1 i1 => by
    have hK : c.n.K = X.K := by rw [g.n]
    cases q : val x s with
    | none => rw [q] at k; exact k.elim
    | some d =>
      rw [q] at k
      have nd : ∀ ks ds, d ≠ .dctT ks ds := fun ks ds e => by subst e; exact k.elim
      have k' : Post c W σ B (opt ((isT Ts d).map E1.d) s) (KE c σ B fs Q) := by
        cases d with
        | dctT ks ds => exact (nd ks ds rfl).elim
        | _ => exact k
      unfold isT at k'
      cases q2 : tyN d with
      | none => rw [q2] at k'; exact k'.elim
      | some t =>
        rw [q2] at k'
        refine ⟨v, .ty Ts.name, .type t.name, .type Ts.name, _, rfl, .ty Ts.name, hK ▸ ty_ok r1.lv.up (val_ok r1 i1 q) q2 nd, kit_ty (kit_all t Ts hTs), ?_⟩
        exact k' B1 H1 _ l1 r1 rfl⟩⟩
end
end Y
namespace Y
open PySem PySem.Spec PyProof.Rows L2
section
variable {X : Cx} {c : Cn} {W : WX} {tg it e a b : Expr} {es : List Expr} {pos : Pos} {vs : List Nat}
/-! ### two places, a fresh thing perhaps -/
def OkG (X : Cx) (c : Cn) (f : Value → Value → Sem Value) (op : D → D → Option DR) : Prop :=
  ∃ r : R2, OpR X f r ∧ ∀ (B : Bs) (σ : Sg) (H : Hp) (st : MS) (fs : Fs) (x y : V) (a b : D) (d : DR) (Q : VK), Rel c B σ H st fs → VD c.n B H a x → VD c.n B H b y → op a b = some d → KX c σ B fs Q d.x st → r x y H Q
@[simp ↓] def mOpG (op : D → D → Option DR) (ma mb : Mo E1) (st : MS) : Rs EX := (ma st).then fun a s1 => (mb s1).then fun b s2 => opt (match val a s2, val b s2 with
  | some x, some y => (op x y).map DR.x
  | _, _ => none) s2
theorem ge_op2 {o : Operator} {op : D → D → Option DR} {ma mb : Mo E1} (ho : OkG X c (binaryOp o) op) (ha : EE X c W a ma) (hb : EE X c W b mb) : GE X c W (.BinOp a o b pos) (mOpG op ma mb) := by
  obtain ⟨r, h1, h2⟩ := ho
  refine ⟨peImp (pe_op h1 ha.pe hb.pe) fun σ H Q h => ?_⟩
  obtain ⟨B, st, fs, R, p⟩ := h
  refine ⟨B, st, fs, R, (Post.bind p).up (.refl B) fun a s1 k B1 H1 v1 l1 R1 i1 => ?_⟩
  refine ⟨B1, s1, fs, R1, (Post.bind k).up l1 fun b s2 k2 B2 H2 v2 l2 R2 i2 => ?_⟩
  split at k2
  · rename_i x y ex ey
    cases q : op x y with
    | some d =>
      rw [q] at k2
      exact h2 B2 σ H2 s2 fs v1 v2 x y d Q R2 (val_ok R2 (i1.mono l2) ex) (val_ok R2 i2 ey) q (KX.up k2 (l1.trans l2))
    | none =>
      rw [q] at k2
      exact k2.elim
  · exact k2.elim
@[simp] def fAdd : D → D → Option DR
  | .int i, .int j => some (.d (.int (i + j)))
  | .str x, .str y => if decide (x.length + y.length ≤ lim) = true then some (.d (.str (x ++ y))) else none
  | .tup xs, .tup ys => if decide (xs.length + ys.length ≤ lim) = true then some (.d (.tup (xs ++ ys))) else none
  | .lst xs, .lst ys => if decide (xs.length + ys.length ≤ lim) = true then some (.f (.l (xs ++ ys))) else none
  | _, _ => none
theorem Inv.lstR {pins : List (Addr × Obj)} {σ : Sg} {H : Hp} {s : Shared} {a : Addr} {xs : List V} (I : L2.Inv X pins σ H s) (h : Rd H a (.lst xs)) : ∃ (its : List Value) (n : Nat), Vals xs its ∧ s.heap.get? a = some { cls := .type "list", data := .seq its.toArray n } ∧ xs.length ≤ sizeLine := by
  obtain ⟨z, its, n, r, e⟩ := h.ok I.hok
  exact ⟨its, n, r, e, z⟩
theorem op_catL : OpR X (binaryOp .Add) (fun x y H Q => ∃ l b xs zs, x = .ref l ∧ y = .ref b ∧ Rd H l (.lst xs) ∧ Rd H b (.lst zs) ∧ xs.length + zs.length ≤ sizeLine ∧ ∀ p, H p = none → Q (.ref p) (upd H p (.lst (xs ++ zs)))) := by
  intro pins s σ H x y v u Q I rx ry h
  obtain ⟨l, b, xs, zs, rfl, rfl, hH, hB, hz, q⟩ := h
  cases rx
  cases ry
  obtain ⟨its, n, r, e, _⟩ := Inv.lstR I hH
  obtain ⟨its2, n2, r2, e2, _⟩ := Inv.lstR I hB
  have hl := r.length
  have hl2 := r2.length
  refine PySem.P.add_list e e2 ?_ (by rw [List.size_toArray, List.size_toArray]; omega)
  have ea : its.toArray ++ its2.toArray = (its ++ its2).toArray := by simp
  rw [ea]
  exact ⟨.ref _, _, I.lnew (t' := s.toks) (r.append r2) (by rw [List.length_append]; omega), rfl, q _ I.fresh⟩
theorem ok_add [g : Gd X c] : OkG X c (binaryOp .Add) fAdd := ⟨_, ((op_add.or op_add_str).or op_catA).or op_catL, fun B σ H st fs x y a b d Q R va vb e k => by
  have hK : c.n.K = X.K := by rw [g.n]
  unfold fAdd at e
  split at e
  · cases e
    exact .inl (.inl (.inl ⟨_, _, va, vb, k B H _ (.refl B) R rfl⟩))
  · split at e
    · rename_i q
      cases e
      exact .inl (.inl (.inr ⟨_, _, va, vb, lim_ok q, k B H _ (.refl B) R rfl⟩))
    · cases e
  · split at e
    · rename_i xs ys q
      cases e
      obtain ⟨p, vs, rfl, h2, h3⟩ := va
      obtain ⟨p', vs', rfl, h2', h3'⟩ := vb
      refine .inl (.inr ⟨p, p', vs, vs', rfl, rfl, hK ▸ sqT_mono R.lv.up h2, hK ▸ sqT_mono R.lv.up h2', by rw [h3.length, h3'.length]; exact lim_ok q, fun e0 => ?_, fun _ e0 => ?_, fun _ _ q hq => ?_⟩)
      · subst e0
        have : xs = [] := List.eq_nil_of_length_eq_zero (by rw [← h3.length]; rfl)
        subst this
        exact k B H _ (.refl B) R ⟨p', vs', rfl, h2', h3'⟩
      · subst e0
        have : ys = [] := List.eq_nil_of_length_eq_zero (by rw [← h3'.length]; rfl)
        subst this
        refine k B H _ (.refl B) R ⟨p, vs, rfl, h2, ?_⟩
        rw [List.append_nil]
        exact h3
      · obtain ⟨le, r2⟩ := R.newD (o := .tup (vs ++ vs')) hq
        exact k _ _ _ le r2 ⟨q, _, rfl, .inl (.inl upd_same), (h3.append h3').mono le _ _⟩
    · cases e
  · split at e
    · rename_i xs ys q
      cases e
      obtain ⟨p, vs, rfl, h2, h3⟩ := va
      obtain ⟨p', vs', rfl, h2', h3'⟩ := vb
      exact .inr ⟨p, p', vs, vs', rfl, rfl, h2, h2', by rw [h3.length, h3'.length]; exact lim_ok q, fun l hl => k B _ l (.refl B) (R.newF (f := .l (xs ++ ys)) hl ⟨_, upd_same, h3.append h3'⟩)⟩
    · cases e
  · cases e⟩
/-! ### a module's constant -/
theorem ee_glob {x : Str} {v : V} {u : Value} {d : D} (hg : Gl X x) (hm : X.mg x = some u) (r : RelV v u) (hd : ∀ B, IsD c.n B d v) (hdb : (x == ("__debug__" : Str)) = false := by decide) : EE X c W (.Name x pos) (mC d) :=
  ⟨peImp (pe_glob hg hm r hdb) fun σ H Q ⟨B, st, fs, r, p⟩ => p B H v (.refl B) r (hd B)⟩
/-! ### a < b < c as a test -/
theorem te_chain {cc : Expr} {o o' : CmpOp} {op op' : D → D → Option D} {ma mb mc : Mo E1} (ho : Ok2 X c (compareOp o) op) (ho' : Ok2 X c (compareOp o') op') (ha : EE X c W a ma) (hb : EE X c W b mb) (hc : EE X c W cc mc)
    (hm : lastMarks [o, o'] [b, cc] = false := by rfl) : TEs X c W (.Compare a [o, o'] [b, cc] pos) (mTest (mChain op op' ma mb mc)) := by
  obtain ⟨r, h1, h2⟩ := ho
  obtain ⟨r', h1', h2'⟩ := ho'
  refine ⟨ptImp (pt_chain h1 h1' ha.pe hb.pe hc.pe hm) fun σ H Q h => ?_⟩
  obtain ⟨B, st, fs, R, p⟩ := test_go (t := fun _ _ _ => True) h
  refine ⟨B, st, fs, R, (Post.bind p).up (.refl B) fun a s1 k B1 H1 v1 l1 R1 i1 => ?_⟩
  refine ⟨B1, s1, fs, R1, (Post.bind k).up l1 fun b s2 k2 B2 H2 v2 l2 R2 i2 => ?_⟩
  split at k2
  · rename_i x y ex ey
    split at k2
    · rename_i q
      refine h2 B2 σ H2 s2 fs v1 v2 x y _ _ R2 (val_ok R2 (i1.mono l2) ex) (val_ok R2 i2 ey) q fun B3 H3 v3 l3 R3 i3 => ⟨true, i3, ?_⟩
      rw [if_pos rfl]
      refine ⟨B3, s2, fs, R3, (Post.bind k2).up ((l1.trans l2).trans l3) fun z s3 k4 B4 H4 v4 l4 R4 i4 => ?_⟩
      split at k4
      · rename_i y' w ey' ew
        cases q2 : op' y' w with
        | some d =>
          rw [q2] at k4
          exact h2' B4 σ H4 s3 fs v2 v4 y' w d _ R4 (val_ok R4 ((i2.mono l3).mono l4) ey') (val_ok R4 i4 ew) q2 fun B' H' v l r' i => k4 B' H' v ((((l1.trans l2).trans l3).trans l4).trans l) r' i
        | none =>
          rw [q2] at k4
          exact k4.elim
      · exact k4.elim
    · rename_i q
      refine h2 B2 σ H2 s2 fs v1 v2 x y _ _ R2 (val_ok R2 (i1.mono l2) ex) (val_ok R2 i2 ey) q fun B3 H3 v3 l3 R3 i3 => ⟨false, i3, ?_⟩
      rw [if_neg Bool.false_ne_true]
      exact k2 B3 H3 _ ((l1.trans l2).trans l3) R3 rfl
    · exact k2.elim
  · exact k2.elim
/-! ### range with a step -/
def stepN (i j c : Int) : Option Nat := if decide (c ≠ 0) && decide (c.natAbs < 1073741824) && Builtin.Range.small i j c then (if 0 ≤ Builtin.Range.rangeSize i j c then some (Builtin.Range.rangeSize i j c).toNat else none) else none
def rgC (lo c : Int) (n : Nat) : List D := (List.range n).map fun (k : Nat) => .int (lo + (k : Int) * c)
@[simp ↓] def rg3 : List D → MS → Rs (List D)
  | [.int i, .int j, .int c], s => opt ((stepN i j c).map (rgC i c)) s
  | _, _ => .bad
@[simp ↓] def mRg3 (ms : Mo (List D)) (st : MS) : Rs (List D) := (ms st).then rg3
theorem walk_rangeC {B : Bs} {lo cc : Int} {n : Nat} : WalkD c B (rgC lo cc n) (Itc lo cc n) := fun j B2 σ2 H2 s2 fs2 l r => by
  refine ⟨fun d hd => ?_, fun hj => by
    have h : n ≤ j := Nat.le_of_eq (by simpa [rgC] using hj)
    exact h⟩
  unfold rgC at hd
  rw [List.getElem?_map] at hd
  by_cases hi : j < n
  · rw [List.getElem?_range hi] at hd
    cases hd
    exact ⟨hi, fun x H3 ⟨e, y⟩ => ⟨B2, .refl _, by rw [e]; exact r, y⟩⟩
  · rw [List.getElem?_eq_none (by simpa using hi)] at hd
    cases hd
theorem ie_range3 {d : Expr} {ms : Mo (List D)} {p : Pos} (hg : Gl X "range") (hm : X.mg "range" = none) (ha : AE X c W [a, b, d] ms)
    (hs : starEach [a, b, d] X.env = (false, eval a X.env) :: starEach [b, d] X.env := by rfl) (hpl : (backTo pos (starEach [b, d] X.env)).any (·.1) = false := by rfl) : IE X c W tg (.Call (.Name "range" p) [a, b, d] [] pos) (mRg3 ms) :=
  ⟨piImp (pi_range3 hg hm ha.pa hs hpl) fun σ H R ⟨B, st, fs, r, p⟩ => ⟨B, st, fs, r, (Post.bind p).up (.refl B) fun ds s k B1 H1 vs l1 r1 i1 => by
    unfold rg3 at k
    split at k
    · rename_i i j cc
      unfold stepN at k
      split at k
      · rename_i q
        rw [Bool.and_eq_true, Bool.and_eq_true] at q
        split at k
        · rename_i hn
          obtain ⟨v, w, rfl, h1, v2, w2, rfl, h3, v3, w3, rfl, h5, h6⟩ := i1
          cases (show w3 = [] from h6)
          refine ⟨i, j, cc, _, by rw [(show v = .int i from h1), (show v2 = .int j from h3), (show v3 = .int cc from h5)], ⟨of_decide_eq_true q.1.1, of_decide_eq_true q.1.2, q.2, ?_⟩, k B1 H1 _ l1 r1 walk_rangeC⟩
          omega
        · exact k.elim
      · exact k.elim
    · exact k.elim⟩⟩
/-! ### a, b = a list -/
@[simp] def gL (n : Nat) (gs : List D → MS → Option MS) : Gt
  | .lst xs, st => if xs.length = n then gs xs st else none
  | _, _ => none
theorem tg_lst [gd : Gd X c] {k n : Nat} {gs : List D → MS → Option MS} (h : TGEs X c vs es gs) (hn : (assignEach es X.env).length = n := by rfl) (hst : (assignEach es X.env).findIdx? (·.1) = none := by rfl) : TGE X c vs (.Tuple es k pos) (gL n gs) :=
  ⟨pgImp (pg_unl gd.calm h.pgs hn hst) fun v σ H Q ⟨B, st, x, fs, r, ix, k⟩ => by
    cases x with
    | lst xs =>
      obtain ⟨a, ws, rfl, h2, h3⟩ := ix
      simp only [gL] at k
      by_cases hl : xs.length = n
      · rw [if_pos hl] at k
        exact ⟨a, ws, rfl, .inl (rd_mono r.lv.up h2), by rw [h3.length]; exact hl, B, st, xs, fs, r, h3, k⟩
      · rw [if_neg hl] at k
        exact k.elim
    | _ => exact k.elim⟩
/-! ### repr, str -/
@[simp] def fRepr : List D → Option DR
  | [.bl b] => some (.d (.str (if b then "True" else "False")))
  | [.int i] => if decide (i.natAbs.log2 < 1920) = true then some (.d (.str (toString i))) else none
  | _ => none
theorem call_repr_bl : CallR X (.builtin "repr") (fun xs H Q => ∃ b, xs = [.bl b] ∧ Q (.str (if b then "True" else "False")) H) := by
  intro pins s σ H xs us Q I r h
  obtain ⟨b, rfl, q⟩ := h
  obtain ⟨u, rfl, rx⟩ := vals1 r
  cases (show u = Value.bool b from rx)
  refine PySem.P.repr_of_bool ?_
  exact ⟨.str (if b then "True" else "False"), H, I.tok _, ⟨s.toks, by cases b <;> rfl⟩, q⟩
theorem ok_repr : OkC X c (.builtin "repr") fRepr := ⟨_, call_repr_bl.or SkE.call_repr_int, fun B σ H st fs vs ds d Q R va e k => by
  unfold fRepr at e
  split at e
  · obtain ⟨v, rfl, h⟩ := paired1 va
    cases e
    cases (show v = _ from h)
    exact .inl ⟨_, rfl, k B H _ (.refl B) R rfl⟩
  · split at e
    · rename_i q
      obtain ⟨v, rfl, h⟩ := paired1 va
      cases e
      cases (show v = _ from h)
      exact .inr ⟨_, rfl, of_decide_eq_true q, k B H _ (.refl B) R rfl⟩
    · cases e
  · cases e⟩
/-- what is known of a def, in a comprehension's block -/
theorem fnkB {s : Shared} {H : Hp} {scope : Scope} {ce : Env} {fp : List Addr} {x : Str} {np : Nat} {F : Fm} (k : FnK X c x np F) : FnK (X.blk s H scope ce fp) c x np F := ⟨k.ex⟩
end
/-! ### a fresh thing that lives on: others write it -/
theorem Rel.mkLive {c : Cn} {B : Bs} {σ : Sg} {H : Hp} {st : MS} {a : Addr} {f : Fr} {fs : List (Addr × Fr)} (r : Rel c B σ H st ((a, f) :: fs)) :
    ∃ B', B.le B' ∧ Rel c B' σ H { st with g := st.g ++ [f] } fs ∧ IsD c.n B' (.live st.g.length) (.ref a) := by
  obtain ⟨fa, hf⟩ := r.fr (a, f) List.mem_cons_self
  have nd : a ∉ fs.map (·.1) ∧ (fs.map (·.1)).Nodup := List.nodup_cons.mp r.fnd
  let A' : Nat → Option Addr := fun k => if k = st.g.length then some a else B.A k
  have hlt : ∀ k b, B.A k = some b → k < st.g.length := r.lv.dom
  have le : B.le ⟨B.H0, A'⟩ := ⟨Up.refl _, fun k b h => by
    have := hlt k b h
    show (if k = st.g.length then some a else B.A k) = some b
    rw [if_neg (by omega)]
    exact h⟩
  have hA : ∀ k b, A' k = some b → (k = st.g.length ∧ b = a) ∨ (k ≠ st.g.length ∧ B.A k = some b) := fun k b h => by
    have h' : (if k = st.g.length then some a else B.A k) = some b := h
    by_cases e : k = st.g.length
    · rw [if_pos e] at h'
      exact .inl ⟨e, (Option.some.inj h').symm⟩
    · rw [if_neg e] at h'
      exact .inr ⟨e, h'⟩
  have nfree : ∀ b, b ≠ a → Free c B H b → Free c ⟨B.H0, A'⟩ H b := fun b hb f1 => ⟨f1.h0, fun k h => by
    rcases hA k b h with ⟨_, z⟩ | ⟨_, z⟩
    · exact hb z
    · exact f1.nl k z, f1.hs, f1.ow⟩
  refine ⟨⟨B.H0, A'⟩, le, ⟨⟨r.ext.le.trans le, r.ext.n0, fun k b h => ?_, r.ext.fr, r.ext.tr, r.ext.tu⟩, ⟨r.lv.tb, r.lv.sub, fun k l b h1 h2 => ?_, fun k b h => ?_, fun k f' h => ?_⟩, r.len, ?_, fun p hp => ?_, nd.2⟩, ⟨a, rfl, ?_⟩⟩
  · rcases hA k b h with ⟨_, z⟩ | ⟨_, z⟩
    · exact .inr (by rw [z]; exact fa.hs)
    · exact r.ext.nl k b z
  · rcases hA k b h1 with ⟨e1, z1⟩ | ⟨e1, z1⟩ <;> rcases hA l b h2 with ⟨e2, z2⟩ | ⟨e2, z2⟩
    · rw [e1, e2]
    · exact absurd (by rw [← z1]; exact z2) (fa.nl l)
    · exact absurd (by rw [← z2]; exact z1) (fa.nl k)
    · exact r.lv.inj k l b z1 z2
  · show k < (st.g ++ [f]).length
    rw [List.length_append, List.length_singleton]
    rcases hA k b h with ⟨e1, _⟩ | ⟨_, z1⟩
    · omega
    · have := hlt k b z1
      omega
  · have h' : (st.g ++ [f])[k]? = some f' := h
    rcases Nat.lt_trichotomy k st.g.length with q | q | q
    · rw [List.getElem?_append_left q] at h'
      obtain ⟨b, h1, h2, h3⟩ := r.lv.ob k f' h'
      exact ⟨b, le.lv k b h1, h2, h3.mono le fun _ _ h => h⟩
    · subst q
      rw [List.getElem?_append_right (Nat.le_refl _), Nat.sub_self] at h'
      have e : f = f' := by simpa using h'
      subst e
      exact ⟨a, by show (if st.g.length = st.g.length then some a else B.A st.g.length) = some a; rw [if_pos rfl], fa.h0, hf.mono le fun _ _ h => h⟩
    · rw [List.getElem?_eq_none (by rw [List.length_append, List.length_singleton]; omega)] at h'
      cases h'
  · obtain ⟨ad, τ, h1, h2, h3⟩ := r.sl
    refine ⟨ad, τ, h1, fun i b h => ?_, fun i sv h => ?_⟩
    · obtain ⟨f1, f2⟩ := h2 i b h
      have hb : b ≠ a := fun e => f2 _ List.mem_cons_self e.symm
      exact ⟨nfree b hb f1, fun p hp => f2 p (List.mem_cons_of_mem _ hp)⟩
    · obtain ⟨v, e, k⟩ := h3 i sv h
      refine ⟨v, e, ?_⟩
      cases sv with
      | d x => exact IsD.mono le x v k
      | m f' =>
        obtain ⟨b, e1, e2, e3⟩ := k
        exact ⟨b, e1, e2, e3.mono le fun _ _ h => h⟩
  · obtain ⟨g1, g2⟩ := r.fr p (List.mem_cons_of_mem _ hp)
    have hb : p.1 ≠ a := fun e => nd.1 (by rw [← e]; exact List.mem_map_of_mem hp)
    exact ⟨nfree _ hb g1, g2.mono le fun _ _ h => h⟩
  · show (if st.g.length = st.g.length then some a else B.A st.g.length) = some a
    rw [if_pos rfl]
@[simp ↓] def mLive (m : Mo EX) (st : MS) : Rs E1 := (m st).then fun x st => match x with
  | .e e => .ok e st
  | .f fr => .ok (.d (.live st.g.length)) { st with g := st.g ++ [fr] }
theorem ee_live {X : Cx} {c : Cn} {W : WX} {e : Expr} {m : Mo EX} (h : GE X c W e m) : EE X c W e (mLive m) := ⟨peImp h.pe fun σ H Q ⟨B, st, fs, r, p⟩ => ⟨B, st, fs, r, (Post.bind p).up (.refl B) fun x st' k => by
  cases x with
  | e e => exact fun B' H' v l r' i => k B' H' v l r' i
  | f fr =>
    intro B' H' a l r'
    obtain ⟨B2, le, r2, hd⟩ := r'.mkLive
    exact k B2 H' _ (l.trans le) r2 hd⟩⟩
end Y
namespace Y
open PySem PySem.Spec PyProof.Rows L2
theorem _root_.L2.Room.units5 {k : Nat} {A : Around} (r : L2.Room k A) : A.units + 65 < cLine := by have := r.un; omega
section
variable {X : Cx} {c : Cn} {W : WX} {tg it e a b : Expr} {es : List Expr} {pos : Pos} {vs : List Nat}
theorem v [g : Gd X c] (i : Nat) {x : Str} (hN : X.N[i]? = some x := by rfl) (hv : Vis X.env.scope x := by first | exact Or.inl rfl | exact Or.inr (Or.inl rfl) | exact Or.inr (Or.inr rfl)) (hd : (x == ("__debug__" : Str)) = false := by decide) (hcd : (x == ("__classdict__" : Str)) = false := by decide) : EE X c W (.Name x pos) (mVar i) := ee_var i hN hv hd hcd
theorem tn [g : Gd X c] (i : Nat) {x : Str} (hi : X.N[i]? = some x := by rfl) (hx : Loc X.env.scope x := by first | exact Or.inl rfl | exact Or.inr rfl) (hv : i ∈ vs := by decide) (hf : X.fn x = true ∨ X.env.scope.names.lookup x = some .local := by first | exact .inl rfl | exact .inr rfl) : TGE X c vs (.Name x pos) (gN i) := tg_name i hi hx hv hf
theorem st [g : Gd X c] (i : Nat) {x : Str} {pos' : Pos} {m : Mo EX} (h : GE X c W e m) (hi : X.N[i]? = some x := by rfl) (hx : Loc X.env.scope x := by first | exact Or.inl rfl | exact Or.inr rfl) (hs : swapsWith e (some (.Name x pos')) pos.line X.env = pure false := by rfl)
    (hf : X.fn x = true ∨ X.env.scope.names.lookup x = some .local := by first | exact .inl rfl | exact .inr rfl) : SE X c W (.Assign [.Name x pos'] e pos) (mSet i m) := se_set i hi hx h hs hf
end
/-- a def that keeps its mirror's promise, by name -/
structure Cal (P : Program) (w : World) (K : PySem.W.Frag) (mg : Str → Option Value) (base : Heap) (T : List (Addr × Str)) (x : Str) (np : Nat) (F : Fm) (lev : Nat) : Prop where
  ex : ∃ (f : Addr) (fd : FuncData) (ps : List Str), ps.length = np ∧ FnOk P w K mg base (L2.CX P w) lev f fd ps (SpF ⟨K, mg, T⟩ np F) ∧ mg x = some (.ref f) ∧ PySem.W.keepIn K (.ref f) = true ∧ Binds K fd ps []
theorem Cal.k {X : Cx} {c : Cn} {x : Str} {np lev k : Nat} {F : Fm} (C : Cal X.prog X.w X.K X.mg X.base c.n.T x np F lev) (hr : L2.Room k X.A) (h : lev ≤ k) : FnK X c x np F := by
  obtain ⟨f, fd, ps, h1, h2, h3, h4, h5⟩ := C.ex
  exact ⟨f, fd, ps, lev, h1, h2, hr.mono h, h3, h4, h5⟩
/-- where a def of the text stands behind the top -/
structure DefAt (K : PySem.W.Frag) (mg : Str → Option Value) (x : Str) (st : Stmt) (ps : List Str) : Prop where
  ex : ∃ (f : Addr) (fd : FuncData), Fun K x x st f fd ∧ mg x = some (.ref f) ∧ Binds K fd ps []
/-- a module's constant -/
structure KonstAt (K : PySem.W.Frag) (mg : Str → Option Value) (x : Str) (d : D) : Prop where
  ex : ∃ (v : V) (u : Value), mg x = some u ∧ L2.RelV v u ∧ ∀ T B, IsD ⟨K, mg, T⟩ B d v
noncomputable def KonstAt.v {K : PySem.W.Frag} {mg : Str → Option Value} {x : Str} {d : D} (k : KonstAt K mg x d) : V := k.ex.choose
noncomputable def KonstAt.u {K : PySem.W.Frag} {mg : Str → Option Value} {x : Str} {d : D} (k : KonstAt K mg x d) : Value := k.ex.choose_spec.choose
theorem KonstAt.hm {K : PySem.W.Frag} {mg : Str → Option Value} {x : Str} {d : D} (k : KonstAt K mg x d) : mg x = some k.u := k.ex.choose_spec.choose_spec.1
theorem KonstAt.rv {K : PySem.W.Frag} {mg : Str → Option Value} {x : Str} {d : D} (k : KonstAt K mg x d) : L2.RelV k.v k.u := k.ex.choose_spec.choose_spec.2.1
theorem KonstAt.hd {K : PySem.W.Frag} {mg : Str → Option Value} {x : Str} {d : D} (k : KonstAt K mg x d) : ∀ T B, IsD ⟨K, mg, T⟩ B d k.v := k.ex.choose_spec.choose_spec.2.2
instance tkD {P : Program} {w : World} {K : PySem.W.Frag} {mg : Str → Option Value} {base : Heap} {N : List Str} {qual : Str} {sc : Scope} {f : Addr} {cdv : Value} {A : Around} {outer : List Env} {s : Shared} {H : Hp} {E : XK} :
    Tk (cxD P w K mg base N qual sc f cdv A outer s H E) (WD E) := ⟨takes_of rfl rfl rfl rfl⟩
instance poD {P : Program} {w : World} {K : PySem.W.Frag} {mg : Str → Option Value} {base : Heap} {N : List Str} {qual : Str} {sc : Scope} {f : Addr} {cdv : Value} {A : Around} {outer : List Env} {s : Shared} {H : Hp} {E : XK} :
    PO (cxD P w K mg base N qual sc f cdv A outer s H E) := ⟨passes_of rfl⟩
theorem cal_of {T : List (Addr × Str)} {P : Program} {w : World} {K : PySem.W.Frag} {mg : Str → Option Value} {base : Heap} {x : Str} {st : Stmt} {N ps : List Str} {k : Nat} {m : MoS}
    (Dx : DefAt K mg x st ps) (S : FnScope N ps (defScope st)) (hps : ps.length ≤ N.length)
    (body : ∀ (f : Addr) (fd : FuncData) (cdv : Value) (A : Around) (outer : List Env) (s : Shared) (H : Hp) (B : Bs) (E : XK), L2.Room k (A.deeper (envOfC x (defScope st) s.heap.objs.size f cdv)) → Fact' N.Nodup →
      SSE (cxD P w K mg base N x (defScope st) f cdv A outer s H E) ⟨⟨K, mg, T⟩, N.length, B, H⟩ (WD E) (defBody st) m) : Cal P w K mg base T x ps.length (fnM N.length m) (k + 1) := by
  obtain ⟨f, fd, F, hm, hb⟩ := Dx.ex
  exact ⟨f, fd, ps, rfl, fn_ok F S hps fun cdv A outer s H B E hr => body f fd cdv A outer s H B E hr ⟨S.nd⟩, hm, F.kp, hb⟩
end Y
namespace Y
open PySem PySem.Spec PyProof.Rows L2
theorem def_at {K : PySem.W.Frag} {h : Heap} {mg : Str → Option Value} (X : K.In h) (G : h.Ns mainGlobals mg) {x : Str} (st : Stmt) (ps : List Str) {f : Addr} {oc kV dc pm cd ct : Value} {od an : Option Addr} {sl : Array (Option Value)}
    (a : PySem.W.nsIn K mainGlobals x = some (some (.ref f))) (l : K.lookup f = some ⟨oc, od, .func (PySem.W.fnOf x x (defArgs st) (defBody st) (defScope st) .none kV dc pm an cd ct), sl⟩)
    (c : PySem.W.codeIn K cd x = true) (k : PySem.W.keepIn K (.ref f) = true)
    (hb : ∀ (kV doc pm : Value) (an : Option Addr) (cdv ct : Value) (us : List Value), us.length = ps.length → bindArgs (PySem.W.fnOf x x (defArgs st) (defBody st) (defScope st) .none kV doc pm an cdv ct) ⟨us, []⟩ = pure (ps.zip us)) : DefAt K mg x st ps :=
  ⟨f, _, fun_mk l c k, PySem.W.mg_of X G a, (fun_mk l c k).binds hb⟩
theorem konst_int {K : PySem.W.Frag} {h : Heap} {mg : Str → Option Value} (X : K.In h) (G : h.Ns mainGlobals mg) {x : Str} {i : Int} {t : Tok} (a : PySem.W.nsIn K mainGlobals x = some (some (.int i t))) : KonstAt K mg x (.int i) :=
  ⟨.int i, .int i t, PySem.W.mg_of X G a, ⟨t, rfl⟩, fun _ _ => rfl⟩
theorem konst_str {K : PySem.W.Frag} {h : Heap} {mg : Str → Option Value} (X : K.In h) (G : h.Ns mainGlobals mg) {x : Str} {i : Str} {t : Tok} (a : PySem.W.nsIn K mainGlobals x = some (some (.str i t))) : KonstAt K mg x (.str i) :=
  ⟨.str i, .str i t, PySem.W.mg_of X G a, ⟨t, rfl⟩, fun _ _ => rfl⟩
/-- the law's own promise -/
def spLaw (K : PySem.W.Frag) (T : List (Addr × Str)) : Sp := fun vs H Q _ => ∃ (a : Addr) (ns : List Int), vs = [.ref a] ∧ SqL K H a (ns.map V.int) ∧ ns.length ≤ 63 ∧ LamX.Tabs T H ∧ ∀ H', Q (.bl true) H'
theorem spLaw_of {T : List (Addr × Str)} {K : PySem.W.Frag} {mg : Str → Option Value} {F : Fm} (hF : ∀ ns : List Int, ns.length ≤ 63 → ∃ g, F [.scr ns] [] = .ok (.d (.bl true)) g) {vs : List V} {H : Hp} {Q : VK} {E : XK} (h : spLaw K T vs H Q E) : SpF ⟨K, mg, T⟩ 1 F vs H Q E := by
  obtain ⟨a, ns, rfl, hS, hl, hT, q⟩ := h
  obtain ⟨g, e⟩ := hF ns hl
  refine ⟨rfl, ⟨H, fun _ => none⟩, [], [.scr ns], ⟨hT, fun _ _ h => h, fun _ _ _ h => (nomatch h), fun _ _ h => (nomatch h), fun k f h => by cases h⟩, ⟨_, _, rfl, ⟨a, rfl, hS⟩, rfl⟩, ?_⟩
  rw [e]
  intro B' H' v x l hv
  cases (show v = .bl true from hv)
  exact q H'
theorem cx_no {P : Program} (w : World) (H : Hp) (s : Shared) (e : Value) (s' : Shared) (h : L2.CX P w [] H s (fun _ _ _ => False) e s') : False := by
  obtain ⟨_, _, _, _, _, _, _, _, _, _, _, _, z⟩ := h
  exact z
/-- the law's def keeps it -/
theorem law_ok {T : List (Addr × Str)} {P : Program} {w : World} {K : PySem.W.Frag} {mg : Str → Option Value} {base : Heap} {st : Stmt} {f : Addr} {fd : FuncData} {N : List Str} {k : Nat} {m : MoS} (F : Fun K "law" "law" st f fd) (S : FnScope N ["script"] (defScope st)) (hN : (["script"] : List Str).length ≤ N.length)
    (body : ∀ (cdv : Value) (A : Around) (outer : List Env) (s : Shared) (H : Hp) (B : Bs) (E : XK), L2.Room k (A.deeper (envOfC "law" (defScope st) s.heap.objs.size f cdv)) → Fact' N.Nodup →
      SSE (cxD P w K mg base N "law" (defScope st) f cdv A outer s H E) ⟨⟨K, mg, T⟩, N.length, B, H⟩ (WD E) (defBody st) m)
    (hF : ∀ ns : List Int, ns.length ≤ 63 → ∃ g, fnM N.length m [.scr ns] [] = .ok (.d (.bl true)) g) : FnOk P w K mg base (L2.CX P w) (k + 1) f fd ["script"] (spLaw K T) :=
  (fn_ok F S hN fun cdv A outer s H B E hr => body cdv A outer s H B E hr ⟨S.nd⟩).imp fun _ _ _ _ h => spLaw_of hF h
end Y
namespace Y
open PySem PySem.Spec PyProof.Rows L2
theorem law_at {K : PySem.W.Frag} {h : Heap} {mg : Str → Option Value} {fa : Addr} (X : K.In h) (G : h.Ns mainGlobals mg) (hfa : mg "law" = some (.ref fa)) (st : Stmt) {f : Addr} {oc kV dc pm cd ct : Value} {od an : Option Addr} {sl : Array (Option Value)}
    (a : PySem.W.nsIn K mainGlobals "law" = some (some (.ref f))) (l : K.lookup f = some ⟨oc, od, .func (PySem.W.fnOf "law" "law" (defArgs st) (defBody st) (defScope st) .none kV dc pm an cd ct), sl⟩)
    (c : PySem.W.codeIn K cd "law" = true) (k : PySem.W.keepIn K (.ref f) = true)
    (hb : ∀ (kV doc pm : Value) (an : Option Addr) (cdv ct : Value) (u : Value), bindArgs (PySem.W.fnOf "law" "law" (defArgs st) (defBody st) (defScope st) .none kV doc pm an cdv ct) ⟨[u], []⟩ = pure [(("script" : Str), u)]) :
    ∃ (fd : FuncData), mg "law" = some (.ref fa) ∧ L2.Fun K "law" "law" st fa fd ∧ ∀ (s : Shared) (u : Value), BindsTo s fd ⟨[u], []⟩ [("script", u)] := by
  have e := hfa.symm.trans (PySem.W.mg_of X G a)
  cases e
  exact ⟨_, hfa, fun_mk l c k, fun s u => .of_eq (hb _ _ _ _ _ _ u)⟩
end Y
namespace Y
open PySem PySem.Spec PyProof.Rows L2
/-! ### the mirrors' plain laws -/
theorem sm_of {i : Int} (h1 : -1606938044258990275541962092341162602522202993782792835301376 ≤ i) (h2 : i ≤ 1606938044258990275541962092341162602522202993782792835301376) : sm i = true := by
  have e : (2 : Nat) ^ 200 = 1606938044258990275541962092341162602522202993782792835301376 := by decide
  have h : i.natAbs < 2 ^ 201 := by
    have e : (2 : Nat) ^ 201 = 3213876088517980551083924184682325205044405987565585670602752 := by decide
    omega
  exact decide_eq_true (Nat.lt_of_lt_of_le h (Nat.pow_le_pow_right (by decide) (by decide)))
theorem mulC_l {i j : Int} (h1 : -18446744073709551616 < i) (h2 : i < 18446744073709551616) : mulC i j = true := by
  have h : decide (i.natAbs < 2 ^ 64) = true := decide_eq_true (by omega)
  unfold mulC
  rw [h]
  rfl
theorem mulC_r {i j : Int} (h1 : -18446744073709551616 < j) (h2 : j < 18446744073709551616) : mulC i j = true := by
  have h : decide (j.natAbs < 2 ^ 64) = true := decide_eq_true (by omega)
  unfold mulC
  rw [h, Bool.or_true]
  rfl
theorem mulC_s {i j : Int} (h1 : sm i = true) (h2 : sm j = true) : mulC i j = true := by
  unfold mulC
  rw [h1, h2]
  simp
theorem divC_of {i j : Int} (h1 : 0 < j) (h2 : j ≤ 1606938044258990275541962092341162602522202993782792835301376) : divC i j = true := by
  have h : j.natAbs < 2 ^ 201 := by
    have e : (2 : Nat) ^ 201 = 3213876088517980551083924184682325205044405987565585670602752 := by decide
    omega
  unfold divC
  rw [decide_eq_true h1, decide_eq_true (Nat.lt_of_lt_of_le h (Nat.pow_le_pow_right (by decide) (show 201 ≤ 9000 by decide)))]
  rfl
theorem shlC_of {i j : Int} (h1 : 0 ≤ j) (h2 : j ≤ 1000000) (h3 : sm i = true) : shlC i j = true := by
  unfold shlC
  rw [decide_eq_true h1, decide_eq_true (show j.natAbs ≤ 1000000 by omega), h3]
  rfl
theorem powC_of {i j : Int} (h1 : 0 ≤ j) (h2 : j ≤ 1000000) (h3 : -18446744073709551616 < i) (h4 : i < 18446744073709551616) : powC i j = true := by
  have h : decide (i.natAbs < 2 ^ 64) = true := decide_eq_true (by omega)
  unfold powC
  rw [decide_eq_true h1, decide_eq_true (show j.natAbs ≤ 1000000 by omega), h]
  rfl
theorem inR_of {i : Int} (h1 : -4611686018427387904 < i) (h2 : i < 4611686018427387904) : inR i = true := by
  have h : i.natAbs < 4611686018427387904 := by omega
  exact decide_eq_true h
theorem atI_nat {α : Type} {xs : List α} {k : Nat} : atI xs (k : Int) = xs[k]? := by
  unfold atI ixN
  by_cases h : k < xs.length
  · simp [h]
  · rw [if_pos (by omega), if_neg (by omega), List.getElem?_eq_none (by omega)]
    rfl
theorem atI_of {α : Type} {xs : List α} {i : Int} (h0 : 0 ≤ i) : atI xs i = xs[i.toNat]? := by
  obtain ⟨k, rfl⟩ := Int.eq_ofNat_of_zero_le h0
  rw [atI_nat]
  rfl
@[simp] theorem atI_z {α : Type} {x : α} {xs : List α} : atI (x :: xs) 0 = some x := by rw [atI_of (by decide)]; rfl
theorem atI_last {α : Type} {xs : List α} : atI xs (-1) = xs.getLast? := by
  unfold atI ixN
  cases xs with
  | nil => rfl
  | cons x xs =>
    rw [if_neg (by decide), if_pos (by simp only [List.length_cons]; omega)]
    rw [List.getLast?_eq_getElem?]
    show (x :: xs)[((-1 : Int) + ((x :: xs).length : Nat)).toNat]? = _
    congr 1
    simp only [List.length_cons]
    omega
/-! ### == -/
def eqDs : List D → List D → Bool
  | [], [] => true
  | x :: xs, y :: ys => eqD x y && eqDs xs ys
  | _, _ => false
theorem eqDs_ok : ∀ xs ys : List D, PyData.eqvAll (toPs xs) (toPs ys) = eqDs xs ys
  | [], [] => rfl
  | [], _ :: _ => rfl
  | _ :: _, [] => rfl
  | x :: xs, y :: ys => by
    show (PyData.eqv (toP x) (toP y) && PyData.eqvAll (toPs xs) (toPs ys)) = _
    rw [eqDs_ok xs ys]
    rfl
@[simp] theorem eqD_int (i j : Int) : eqD (.int i) (.int j) = decide (i = j) := by
  show (i == j) = _
  rw [Bool.eq_iff_iff]
  simp
@[simp] theorem eqD_tup (xs ys : List D) : eqD (.tup xs) (.tup ys) = eqDs xs ys := eqDs_ok xs ys
@[simp] theorem eqD_lst (xs ys : List D) : eqD (.lst xs) (.lst ys) = eqDs xs ys := eqDs_ok xs ys
@[simp] theorem eqD_bl (i j : Bool) : eqD (.bl i) (.bl j) = (i == j) := rfl
@[simp] theorem eqD_str (i j : Str) : eqD (.str i) (.str j) = (i == j) := rfl
@[simp] theorem eqD_ti (xs : List D) (i : Int) : eqD (.tup xs) (.int i) = false := rfl
@[simp] theorem eqDs_nil : eqDs [] [] = true := rfl
@[simp] theorem eqDs_cons (x y : D) (xs ys : List D) : eqDs (x :: xs) (y :: ys) = (eqD x y && eqDs xs ys) := rfl
@[simp] theorem eqDs_nc (y : D) (ys : List D) : eqDs [] (y :: ys) = false := rfl
@[simp] theorem eqDs_cn (y : D) (ys : List D) : eqDs (y :: ys) [] = false := rfl
theorem eqDs_ints : ∀ xs ys : List Int, eqDs (xs.map D.int) (ys.map D.int) = decide (xs = ys)
  | [], [] => rfl
  | [], _ :: _ => by simp
  | _ :: _, [] => by simp
  | x :: xs, y :: ys => by
    rw [List.map_cons, List.map_cons, eqDs_cons, eqDs_ints xs ys, eqD_int]
    simp [Bool.decide_and]
/-- depth at most n, figures all ints -/
def sh (n : Nat) (d : D) : Bool := (toP d).canLay0 && decide ((toP d).depth ≤ n)
theorem shp_of {d : D} {n : Nat} (h : sh n d = true) (hn : n ≤ 64) : shp d = true := by
  unfold sh at h
  rw [Bool.and_eq_true] at h
  show ((toP d).canLay0 && decide ((toP d).depth ≤ 64)) = true
  rw [h.1, decide_eq_true (Nat.le_trans (of_decide_eq_true h.2) hn)]
  rfl
@[simp] theorem sh_int (n : Nat) (i : Int) : sh n (.int i) = true := by
  show (true && decide (0 ≤ n)) = true
  simp
@[simp] theorem sh_bl (n : Nat) (i : Bool) : sh n (.bl i) = true := by
  show (true && decide (0 ≤ n)) = true
  simp
@[simp] theorem sh_non (n : Nat) : sh n .non = true := by
  show (true && decide (0 ≤ n)) = true
  simp
theorem shs_ok {n : Nat} : ∀ xs : List D, (PyData.canLayAll0 (toPs xs) && decide (PyData.depthAll (toPs xs) ≤ n)) = xs.all (sh n)
  | [] => by
    show (true && decide (0 ≤ n)) = true
    simp
  | x :: xs => by
    have ih := shs_ok (n := n) xs
    rw [List.all_cons, ← ih]
    show (((toP x).canLay0 && PyData.canLayAll0 (toPs xs)) && decide (max (toP x).depth (PyData.depthAll (toPs xs)) ≤ n)) = (((toP x).canLay0 && decide ((toP x).depth ≤ n)) && _)
    rw [Bool.eq_iff_iff]
    simp only [Bool.and_eq_true, decide_eq_true_eq, Nat.max_le]
    constructor
    · rintro ⟨⟨a, b⟩, c, d⟩; exact ⟨⟨a, c⟩, b, d⟩
    · rintro ⟨⟨a, c⟩, b, d⟩; exact ⟨⟨a, b⟩, c, d⟩
@[simp] theorem sh_tup (n : Nat) (xs : List D) : sh (n + 1) (.tup xs) = xs.all (sh n) := by
  rw [← shs_ok]
  show (PyData.canLayAll0 (toPs xs) && decide (PyData.depthAll (toPs xs) + 1 ≤ n + 1)) = _
  simp
@[simp] theorem sh_lst (n : Nat) (xs : List D) : sh (n + 1) (.lst xs) = xs.all (sh n) := by
  rw [← shs_ok]
  show (PyData.canLayAll0 (toPs xs) && decide (PyData.depthAll (toPs xs) + 1 ≤ n + 1)) = _
  simp
@[simp] theorem shp_int (i : Int) : shp (.int i) = true := shp_of (n := 64) (sh_int _ i) (by decide)
@[simp] theorem shp_bl (i : Bool) : shp (.bl i) = true := shp_of (n := 64) (sh_bl _ i) (by decide)
@[simp] theorem shp_non : shp .non = true := shp_of (n := 64) (sh_non _) (by decide)
theorem shp_eq (d : D) : shp d = sh 64 d := rfl
@[simp] theorem shp_tup (xs : List D) : shp (.tup xs) = xs.all (sh 63) := sh_tup 63 xs
@[simp] theorem shp_lst (xs : List D) : shp (.lst xs) = xs.all (sh 63) := sh_lst 63 xs
@[simp] theorem sh63_tup (xs : List D) : sh 63 (.tup xs) = xs.all (sh 62) := sh_tup 62 xs
@[simp] theorem sh63_lst (xs : List D) : sh 63 (.lst xs) = xs.all (sh 62) := sh_lst 62 xs
@[simp] theorem sh62_tup (xs : List D) : sh 62 (.tup xs) = xs.all (sh 61) := sh_tup 61 xs
@[simp] theorem sh62_lst (xs : List D) : sh 62 (.lst xs) = xs.all (sh 61) := sh_lst 61 xs
@[simp] theorem sh61_tup (xs : List D) : sh 61 (.tup xs) = xs.all (sh 60) := sh_tup 60 xs
@[simp] theorem sh61_lst (xs : List D) : sh 61 (.lst xs) = xs.all (sh 60) := sh_lst 60 xs
@[simp] theorem fEq_int (i j : Int) : fEq (.int i) (.int j) = some (.bl (decide (i = j))) := by simp [fEq]
@[simp] theorem fNe_int (i j : Int) : fNe (.int i) (.int j) = some (.bl (!decide (i = j))) := by simp [fNe]
/-- a chain's first answer -/
@[simp] theorem ite_bl {α : Type} (b : Bool) (x y : α) (f : Bool → α) : (match (some (D.bl b) : Option D) with
    | some (.bl true) => x
    | some (.bl false) => y
    | _ => f b) = if b then x else y := by cases b <;> rfl
/-! ### the scripts' hands -/
def cellsOf (cs : List Int) : List D := cs.map D.int
/-- the hand: the cells, the next one's place, what is left, the mix, how many were mixed -/
def HandOk (g : G) : Prop := ∃ (cs : List Int) (p l m k : Int), g = [.l [.lst (cellsOf cs), .int p, .int l, .int m, .int k]] ∧ (∀ c ∈ cs, 0 ≤ c) ∧ 0 ≤ p ∧ 0 ≤ l
@[simp] theorem cellsOf_len (cs : List Int) : (cellsOf cs).length = cs.length := by simp [cellsOf]
theorem cellsOf_at {cs : List Int} {p : Int} (h0 : 0 ≤ p) (h1 : p < cs.length) : ∃ c ∈ cs, atI (cellsOf cs) p = some (.int c) := by
  have h : p.toNat < cs.length := by omega
  refine ⟨cs[p.toNat], List.getElem_mem _, ?_⟩
  rw [atI_of h0, cellsOf, List.getElem?_map, List.getElem?_eq_getElem h]
  rfl
/-! ### loops -/
theorem lc_inv {g : Gt} {mt : Mo Bool} {me : Mo D} {own : List Nat} (I : MS → Prop) (R : D → D → Prop) : ∀ (items acc : List D) (st : MS), I st → (∀ x ∈ items, ∀ st, I st → ∃ s1 s2 d s3, g x st = some s1 ∧ mt s1 = .ok true s2 ∧ me s2 = .ok d s3 ∧ R x d ∧ I { s3 with sl := wipeS s3.sl own }) → acc.length + items.length ≤ lim →
    ∃ ds st', lcL g mt me own items acc st = .ok (acc ++ ds) st' ∧ Paired R items ds ∧ I st'
  | [], acc, st, h, _, _ => ⟨[], st, by rw [List.append_nil]; rfl, .nil, h⟩
  | x :: xs, acc, st, h, hs, hl => by
    obtain ⟨s1, s2, d, s3, e1, e2, e3, hr, hi⟩ := hs x List.mem_cons_self st h
    have hl' : acc.length + (xs.length + 1) ≤ lim := hl
    obtain ⟨ds, st', e, hp, hi'⟩ := lc_inv I R xs (acc ++ [d]) _ hi (fun y hy => hs y (List.mem_cons_of_mem _ hy)) (by rw [List.length_append, List.length_singleton]; omega)
    refine ⟨d :: ds, st', ?_, .cons hr hp, hi'⟩
    unfold lcL
    simp only [e1, e2, e3]
    rw [if_pos (decide_eq_true (by omega)), e, List.append_assoc]
    rfl
theorem for_inv {g : Gt} {body : MoS} {wp : List Nat} (I : Nat → MS → Prop) : ∀ (items : List D) (k : Nat) (st : MS), I k st → (∀ j x st, items[j]? = some x → I (k + j) st → ∃ s1 s2, g x st = some s1 ∧ body s1 = .nx s2 ∧ I (k + j + 1) { s2 with sl := wipeS s2.sl wp }) →
    ∃ st', mForL g body wp items st = .nx st' ∧ I (k + items.length) st'
  | [], k, st, h, _ => ⟨st, rfl, h⟩
  | x :: xs, k, st, h, hs => by
    obtain ⟨s1, s2, e1, e2, hi⟩ := hs 0 x st rfl h
    obtain ⟨st', e, hi'⟩ := for_inv I xs (k + 1) _ hi (fun j y s hy hI => by
      have e : k + 1 + j = k + (j + 1) := by omega
      rw [e] at hI ⊢
      exact hs (j + 1) y s hy hI)
    refine ⟨st', ?_, by rw [List.length_cons]; have e : k + (xs.length + 1) = k + 1 + xs.length := by omega
                        rw [e]; exact hi'⟩
    unfold mForL
    simp only [e1, e2]
    exact e
theorem while_inv {mt : Mo Bool} {m : MoS} {wp : List Nat} (I : Nat → MS → Prop) (J : MS → Prop) (step : ∀ n st, I n st → (∃ s, mt st = .ok false s ∧ J s) ∨ ∃ s s2 k, mt st = .ok true s ∧ m s = .nx s2 ∧ k < n ∧ I k { s2 with sl := wipeS s2.sl wp }) :
    ∀ (fu n : Nat) (st : MS), n < fu → I n st → ∃ s, mWhileN mt m wp fu st = .nx s ∧ J s
  | 0, n, st, h, _ => by omega
  | fu + 1, n, st, h, hi => by
    rcases step n st hi with ⟨s, e, hj⟩ | ⟨s, s2, k, e, e2, hk, hi2⟩
    · refine ⟨s, ?_, hj⟩
      unfold mWhileN
      rw [e]
      rfl
    · obtain ⟨s', e', hj⟩ := while_inv I J step fu k _ (by omega) hi2
      refine ⟨s', ?_, hj⟩
      unfold mWhileN
      rw [e]
      show (match m s with
      | .nx s2 => mWhileN mt m wp fu { s2 with sl := wipeS s2.sl wp }
      | .ct s2 => mWhileN mt m wp fu { s2 with sl := wipeS s2.sl wp }
      | .bk s2 => .nx { s2 with sl := wipeS s2.sl wp }
      | .rt r g => .rt r g
      | .ex x as st => .ex x as st
      | .bad => .bad) = _
      rw [e2]
      exact e'
theorem fuel_gt {n : Nat} (h : n < 1000000) : n < fuel := Nat.lt_trans h (by unfold fuel; decide)
theorem while_ok {mt : Mo Bool} {m : MoS} {wp : List Nat} (I : Nat → MS → Prop) (J : MS → Prop) (step : ∀ n st, I n st → (∃ s, mt st = .ok false s ∧ J s) ∨ ∃ s s2 k, mt st = .ok true s ∧ m s = .nx s2 ∧ k < n ∧ I k { s2 with sl := wipeS s2.sl wp }) {n : Nat} {st : MS} (hn : n < 1000000) (hi : I n st) : ∃ s, mWhile mt m wp st = .nx s ∧ J s :=
  while_inv I J step fuel n st (fuel_gt hn) hi
@[simp] theorem rgD_len (lo : Int) (n : Nat) : (rgD lo n).length = n := by simp [rgD]
theorem pos_mod {a b : Int} (h : 0 < b) : 0 ≤ a % b ∧ a % b < b := ⟨Int.emod_nonneg a (by omega), Int.emod_lt_of_pos a h⟩
theorem two_pos (n : Nat) : (0 : Int) < 2 ^ n := Int.pow_pos (by decide)
theorem two_le {n m : Nat} (h : n ≤ m) : (2 : Int) ^ n ≤ 2 ^ m := by
  have := Nat.pow_le_pow_right (show 0 < 2 by decide) h
  exact_mod_cast this
@[simp] theorem tn2 (n : Nat) : (2 * (n : Int)).toNat = 2 * n := by omega
theorem two_two (n : Nat) : (2 : Int) ^ (2 * n) = 2 ^ n * 2 ^ n := by rw [Nat.two_mul, Int.pow_add]
/-- a number by high and low parts -/
theorem hl_mod {X y H : Int} (h0 : 0 ≤ y) (h1 : y < H) : (X * H + y) % (H * H) = X % H * H + y := by
  have hH : 0 < H := by omega
  have e : X * H + y = (X % H * H + y) + H * H * (X / H) := by
    have := Int.emod_add_mul_ediv X H
    have e2 : X * H = (X % H + H * (X / H)) * H := by rw [this]
    rw [e2, Int.add_mul, Int.mul_assoc H (X / H) H, Int.mul_comm (X / H) H, ← Int.mul_assoc]
    omega
  rw [e, Int.add_mul_emod_self_left, Int.emod_eq_of_lt]
  · have := Int.mul_nonneg (pos_mod (a := X) hH).1 (show 0 ≤ H by omega)
    omega
  · have h2 := (pos_mod (a := X) hH).2
    have h3 : X % H ≤ H - 1 := by omega
    have h4 := Int.mul_le_mul_of_nonneg_right h3 (show 0 ≤ H by omega)
    rw [Int.sub_mul] at h4
    omega
theorem hl_hi {X y H : Int} (h0 : 0 ≤ y) (h1 : y < H) : (X * H + y) / H = X := by
  rw [Int.add_comm, Int.add_mul_ediv_right _ _ (by omega), Int.ediv_eq_zero_of_lt h0 h1]
  omega
theorem hl_lo {X y H : Int} (h0 : 0 ≤ y) (h1 : y < H) : (X * H + y) % H = y := by
  rw [Int.add_comm, Int.add_mul_emod_self_right, Int.emod_eq_of_lt h0 h1]
theorem hl_hi2 {X y H : Int} (h0 : 0 ≤ y) (h1 : y < H) : (X * H + y) % (H * H) / H = X % H := by rw [hl_mod h0 h1, hl_hi h0 h1]
theorem hl_lo2 {X y H : Int} (h0 : 0 ≤ y) (h1 : y < H) : (X * H + y) % (H * H) % H = y := by rw [hl_mod h0 h1, hl_lo h0 h1]
end Y
namespace Y
open PySem PySem.Spec PyProof.Rows L2
section
variable {X : Cx} {c : Cn} {W : WX} {tg it e a b : Expr} {es : List Expr} {pos : Pos} {vs : List Nat}
/-! ### enumerate -/
def enumD (ds : List D) : List D := (List.range ds.length).map fun (k : Nat) => .tup [.int (k : Int), ds.getD k .non]
theorem enumD_get {ds : List D} {i : Nat} {d : D} (h : (enumD ds)[i]? = some d) : ∃ x, ds[i]? = some x ∧ d = .tup [.int (i : Int), x] := by
  unfold enumD at h
  rw [List.getElem?_map] at h
  by_cases hi : i < ds.length
  · rw [List.getElem?_range hi] at h
    refine ⟨ds[i], List.getElem?_eq_getElem hi, ?_⟩
    rw [← Option.some.inj h]
    show D.tup [.int (i : Int), ds.getD i .non] = _
    rw [List.getD_eq_getElem?_getD, List.getElem?_eq_getElem hi]
    rfl
  · rw [List.getElem?_eq_none (by simpa using hi)] at h
    cases h
theorem enumD_len (ds : List D) : (enumD ds).length = ds.length := by simp [enumD]
@[simp] def itemsE : List D → MS → Rs (List D)
  | [.lst ds], s => .ok (enumD ds) s
  | _, _ => .bad
@[simp ↓] def mEnum (ms : Mo (List D)) (st : MS) : Rs (List D) := (ms st).then itemsE
theorem walk_enum [g : Gd X c] {B : Bs} {a : Addr} {vs : List V} {ds : List D} (h : Rd B.H0 a (.lst vs)) (i : IsDs c.n B ds vs) : WalkD c B (enumD ds) (Ite X.K a) := fun j B2 σ2 H2 s2 fs2 l r => by
  have h2 : SqL X.K H2 a vs := .inl (rd_mono (l.h0.trans r.lv.up) h)
  refine ⟨fun d hd => ?_, fun hj => ⟨vs, h2, by rw [i.length]; rw [enumD_len] at hj; exact Nat.le_of_eq hj⟩⟩
  obtain ⟨x, hx, rfl⟩ := enumD_get hd
  obtain ⟨v, hv, iv⟩ := i.get hx
  refine ⟨⟨vs, v, h2, hv⟩, fun y H3 ⟨T, w, e1, e2, e3, e4⟩ => ?_⟩
  have hw := e4 vs h2
  rw [hv] at hw
  cases hw
  subst e1
  subst e3
  obtain ⟨le, r3⟩ := r.newD (o := .tup [.int (j : Nat), v]) e2
  exact ⟨_, le, r3, T, [.int (j : Nat), v], rfl, .inl (.inl upd_same), _, _, rfl, rfl, _, _, rfl, IsD.mono (l.trans le) x v iv, rfl⟩
theorem ie_enum [gd : Gd X c] {ms : Mo (List D)} {p tpos : Pos} {elts : List Expr} {kk : Nat} (hg : Gl X "enumerate") (hm : X.mg "enumerate" = none) (ha : AE X c W [e] ms) (hs : starEach [e] X.env = [(false, eval e X.env)] := by rfl) : IE X c W (.Tuple elts kk tpos) (.Call (.Name "enumerate" p) [e] [] pos) (mEnum ms) :=
  ⟨piImp (pi_enum hg hm ha.pa hs) fun σ H R ⟨B, st, fs, r, p⟩ => ⟨B, st, fs, r, (Post.bind p).up (.refl B) fun ds s k B1 H1 vs l1 r1 i1 => by
    unfold itemsE at k
    split at k
    · obtain ⟨v, w, rfl, h1, h2⟩ := i1
      cases (show w = [] from h2)
      obtain ⟨a, us, rfl, h3, h4⟩ := h1
      exact ⟨a, us, rfl, .inl (rd_mono r1.lv.up h3), k B1 H1 _ l1 r1 (walk_enum h3 h4)⟩
    · exact k.elim⟩⟩
/-! ### xs[::-1] of a list -/
@[simp ↓] def mRev (m : Mo E1) (st : MS) : Rs EX := (m st).then fun x s => match val x s with
  | some (.lst ds) => .ok (.f (.l ds.reverse)) s
  | some (.scr ns) => .ok (.f (.l (ns.map D.int).reverse)) s
  | _ => .bad
theorem ge_rev [gd : Gd X c] {m : Mo E1} {k : Nat} {p1 p2 p3 : Pos} (h : EE X c W e m) : GE X c W (.Subscript e (.Slice none none (some (.UnaryOp .USub (.Constant (.int 1) k p1) p2)) p3) pos) (mRev m) :=
  ⟨peImp (pe_revL h.pe) fun σ H Q ⟨B, st, fs, r, p⟩ => ⟨B, st, fs, r, (Post.bind p).up (.refl B) fun x s k2 B1 H1 v l1 r1 i1 => by
    have hK : c.n.K = X.K := by rw [gd.n]
    split at k2
    · rename_i ds ex
      obtain ⟨a, vs, rfl, h2, h3⟩ := val_ok r1 i1 ex
      refine ⟨a, vs, rfl, .inl h2, fun p hp => ?_⟩
      exact k2 B1 _ p l1 (r1.newF hp ⟨vs.reverse, upd_same, IsDs.reverse h3⟩)
    · rename_i ns ex
      obtain ⟨a, rfl, h2⟩ := val_ok r1 i1 ex
      rw [hK] at h2
      refine ⟨a, _, rfl, sqL_mono r1.lv.up h2, fun p hp => ?_⟩
      exact k2 B1 _ p l1 (r1.newF hp ⟨_, upd_same, IsDs.reverse IsDs.of_ints⟩)
    · exact k2.elim⟩⟩
end
end Y
namespace Y
open PySem PySem.Spec PyProof.Rows L2
/-! ### zip: sources are lists (false) and tuples (true) -/
def SqK (K : PySem.W.Frag) (H : Hp) (k : Bool) (a : Addr) (xs : List V) : Prop := match k with
  | true => SqT K H a xs
  | false => SqL K H a xs
def IsSeqK (k : Bool) (h : Heap) (a : Addr) (items : Array Value) : Prop := match k with
  | true => h.IsTuple a items
  | false => h.IsList a items
def IsItK (k : Bool) (h : Heap) (it a : Addr) (i : Nat) : Prop := match k with
  | true => h.IsTupleIter it a i
  | false => h.IsListIter it a i
theorem isItK_at {k : Bool} {h h' : Heap} {it a : Addr} {i : Nat} (x : IsItK k h it a i) (e : ∀ o, h.get? it = some o → h'.get? it = some o) : IsItK k h' it a i := by
  cases k with
  | true => exact Heap.IsTupleIter.at x e
  | false => exact Heap.IsListIter.at x e
theorem isItK_obj {k : Bool} {h : Heap} {it a : Addr} {i : Nat} (x : IsItK k h it a i) : ∃ o, h.get? it = some o ∧ ∀ v, o.data ≠ .cell v := by
  cases k with
  | true => obtain ⟨o, e, _, d⟩ := x; exact ⟨o, e, fun v q => by rw [d] at q; cases q⟩
  | false => obtain ⟨o, e, _, d⟩ := x; exact ⟨o, e, fun v q => by rw [d] at q; cases q⟩
theorem drawsK {prog : Program} {w : World} {A : Around} (hh : A.handled = none) (k : Bool) (it l : Addr) (hne : l ≠ it) (items : Array Value) :
    Draws prog w A it [it, l] items.size (fun i v => items[i]? = some v) (fun i h => IsItK k h it l i ∧ IsSeqK k h l items) := by
  cases k with
  | true => exact Draws.tuple hh it l hne items
  | false => exact Draws.list hh it l hne items
def itObj (k : Bool) (l : Addr) : Obj := match k with
  | true => { cls := .type "tuple_iterator", data := .fields #[.ref l, .int 0 0] }
  | false => { cls := .type "list_iterator", data := .fields #[.ref l, .int 0 0] }
theorem begK (k : Bool) (l : Addr) (items : Array Value) : Begins (.ref l) (itObj k l) fun h => IsSeqK k h l items := by
  cases k with
  | true => exact begins_tuple l items
  | false => exact begins_list l items
theorem seqK {X : Cx} {pins : List (Addr × Obj)} {σ : L2.St} {H : Hp} {s : Shared} (I : L2.Inv X pins σ H s) {k : Bool} {a : Addr} {xs : List V} (h : SqK X.K H k a xs) : ∃ its : List Value, Vals xs its ∧ IsSeqK k s.heap a its.toArray ∧ a < s.heap.objs.size := by
  cases k with
  | true =>
    obtain ⟨its, rv, p, hz⟩ := I.tuple h
    obtain ⟨o, ho, _⟩ := id p
    exact ⟨its, rv, p, Heap.lt_size ho⟩
  | false =>
    obtain ⟨its, rv, p, hz⟩ := I.list h
    exact ⟨its, rv, p.isList, p.lt⟩
theorem sqK_inj {X : Cx} {pins : List (Addr × Obj)} {σ : L2.St} {H : Hp} {s : Shared} (I : L2.Inv X pins σ H s) {k : Bool} {a : Addr} {xs ys : List V} (h1 : SqK X.K H k a xs) (h2 : SqK X.K H k a ys) : xs = ys := by
  cases k with
  | true => exact I.tuple_inj h1 h2
  | false => exact I.list_inj h1 h2
def Itz3 (K : PySem.W.Frag) (k1 k2 k3 : Bool) (a1 a2 a3 : Addr) : It :=
  ⟨fun i H => ∃ (xs ys zs : List V) (x y z : V), SqK K H k1 a1 xs ∧ SqK K H k2 a2 ys ∧ SqK K H k3 a3 zs ∧ xs[i]? = some x ∧ ys[i]? = some y ∧ zs[i]? = some z,
    fun i H v H' => ∃ T x y z, v = .ref T ∧ H T = none ∧ H' = upd H T (.tup [x, y, z]) ∧ (∀ xs, SqK K H k1 a1 xs → xs[i]? = some x) ∧ (∀ xs, SqK K H k2 a2 xs → xs[i]? = some y) ∧ ∀ xs, SqK K H k3 a3 xs → xs[i]? = some z,
    fun i H => ∃ xs ys zs : List V, SqK K H k1 a1 xs ∧ SqK K H k2 a2 ys ∧ SqK K H k3 a3 zs ∧ i = min (min xs.length ys.length) zs.length⟩
theorem turn_zip3 {P : Program} {w : World} {K : PySem.W.Frag} {elts : List Expr} {kk : Nat} {tpos : Pos} {k1 k2 k3 : Bool} {a1 a2 a3 z TI TO i1 i2 i3 : Addr} (S : ZipSep3 z TI TO i1 i2 i3 [i1, a1] [i2, a2] [i3, a3]) (n1 : a1 ≠ i1) (n2 : a2 ≠ i2) (n3 : a3 ≠ i3) :
    Turn P w K (.Tuple elts kk tpos) (Itz3 K k1 k2 k3 a1 a2 a3) [z, TI, TO, i1, i2, i3] z (fun i h => IsZip h z TI TO .none ∧ IsTupOf3 h TI (.ref i1) (.ref i2) (.ref i3) ∧ (∃ x y u, IsTupOf3 h TO x y u) ∧ IsItK k1 h i1 a1 i ∧ IsItK k2 h i2 a2 i ∧ IsItK k3 h i3 a3 i) where
  mem := by simp
  obj := fun i h st b hb => by
    obtain ⟨hz, hTI, ⟨x, y, u, hTO⟩, h1, h2, h3⟩ := st
    have e' : b = z ∨ b = TI ∨ b = TO ∨ b = i1 ∨ b = i2 ∨ b = i3 := by simpa using hb
    rcases e' with q | q | q | q | q | q
    · rw [q]; exact ⟨_, hz, fun v q => nomatch q⟩
    · rw [q]; exact ⟨_, hTI, fun v q => nomatch q⟩
    · rw [q]; exact ⟨_, hTO, fun v q => nomatch q⟩
    · rw [q]; exact isItK_obj h1
    · rw [q]; exact isItK_obj h2
    · rw [q]; exact isItK_obj h3
  keep := fun i h h' st k => by
    obtain ⟨hz, hTI, ⟨x, y, u, hTO⟩, h1, h2, h3⟩ := st
    exact ⟨k z (by simp) _ hz, k TI (by simp) _ hTI, ⟨x, y, u, k TO (by simp) _ hTO⟩, isItK_at h1 fun o q => k i1 (by simp) o q, isItK_at h2 fun o q => k i2 (by simp) o q, isItK_at h3 fun o q => k i3 (by simp) o q⟩
  item := by
    intro X hP hw hK hc i pins s σ H E I hf st hg
    subst hP hw hK
    obtain ⟨hz, hTI, ⟨x0, y0, u0, hTO⟩, h1, h2, h3⟩ := st
    obtain ⟨xs, ys, zs, x, y, u, q1, q2, q3, e1, e2, e3⟩ := hg
    obtain ⟨s1, r1, p1, l1⟩ := seqK I q1
    obtain ⟨s2, r2, p2, l2⟩ := seqK I q2
    obtain ⟨s3, r3, p3, l3⟩ := seqK I q3
    have hh : X.A.in1.handled = none := (show X.A.handled = none from I.ok.hd hc)
    have W := GoesN.zip3 (prog := X.prog) (w := X.w) (A := X.A) (elts := elts) (x1 := kk) (pos := tpos) S (drawsK hh k1 i1 a1 n1 s1.toArray) (drawsK hh k2 i2 a2 n2 s2.toArray) (drawsK hh k3 i3 a3 n3 s3.toArray)
    obtain ⟨v1, g1, w1⟩ := r1.get e1
    obtain ⟨v2, g2, w2⟩ := r2.get e2
    obtain ⟨v3, g3, w3⟩ := r3.get e3
    have hi : i < min (min s1.toArray.size s2.toArray.size) s3.toArray.size := by
      have c1 := (List.getElem?_eq_some_iff.mp g1).1
      have c2 := (List.getElem?_eq_some_iff.mp g2).1
      have c3 := (List.getElem?_eq_some_iff.mp g3).1
      simp only [List.size_toArray]
      omega
    refine W.goes i s (fun v s2 => ∃ x H', Inv X pins σ H' s2 ∧ RelV x v ∧ (Itz3 X.K k1 k2 k3 a1 a2 a3).yld i H x H' ∧ (IsZip s2.heap z TI TO .none ∧ IsTupOf3 s2.heap TI (.ref i1) (.ref i2) (.ref i3) ∧ (∃ x y u, IsTupOf3 s2.heap TO x y u) ∧ IsItK k1 s2.heap i1 a1 (i + 1) ∧ IsItK k2 s2.heap i2 a2 (i + 1) ∧ IsItK k3 s2.heap i3 a3 (i + 1)) ∧ ∀ b ∈ [z, TI, TO, i1, i2, i3], H' b = none) E hi ⟨hz, hTI, ⟨_, _, _, hTO⟩, ⟨h1, p1⟩, ⟨h2, p2⟩, ⟨h3, p3⟩⟩ fun v h' tk ⟨T, x', y', u', ev, hT, d1, d2, d3, ht⟩ st' old htk => ?_
    subst ev
    obtain ⟨hz', hTI', hTO', ⟨h1', _⟩, ⟨h2', _⟩, ⟨h3', _⟩⟩ := st'
    have f1 : x' = v1 := by simpa [g1] using d1.symm
    have f2 : y' = v2 := by simpa [g2] using d2.symm
    have f3 : u' = v3 := by simpa [g3] using d3.symm
    subst f1 f2 f3
    have new : ObjOk X.prog X.w (upd H T (.tup [x, y, u])) h' T (.tup [x, y, u]) := ⟨by show 3 ≤ sizeLine; decide, [x', y', u'], .cons w1 (.cons w2 (.cons w3 .nil)), ht⟩
    have I1 : Inv X pins σ (upd H T (.tup [x, y, u])) { s with heap := h', toks := tk } :=
      I.turnedNew (ch := [z, TI, TO, i1, i2, i3]) (fun b o hb e => old b o (fun q => hb (by
        have e' : b = z ∨ b = TO ∨ b = i1 ∨ b = i2 ∨ b = i3 := by simpa using q
        rcases e' with q | q | q | q | q <;> simp [q])) e) hf hT new
    refine ⟨.ref T, _, I1, rfl, ⟨T, x, y, u, rfl, I.hok.fresh hT, rfl, fun l hl => by rw [sqK_inj I hl q1]; exact e1, fun l hl => by rw [sqK_inj I hl q2]; exact e2, fun l hl => by rw [sqK_inj I hl q3]; exact e3⟩, ⟨hz', hTI', hTO', h1', h2', h3'⟩, fun b hb => ?_⟩
    have hlt : b < s.heap.objs.size := by
      have e' : b = z ∨ b = TI ∨ b = TO ∨ b = i1 ∨ b = i2 ∨ b = i3 := by simpa using hb
      rcases e' with q | q | q | q | q | q
      · rw [q]; exact Heap.lt_size hz
      · rw [q]; exact Heap.lt_size hTI
      · rw [q]; exact Heap.lt_size hTO
      · rw [q]; obtain ⟨_, e, _⟩ := isItK_obj h1; exact Heap.lt_size e
      · rw [q]; obtain ⟨_, e, _⟩ := isItK_obj h2; exact Heap.lt_size e
      · rw [q]; obtain ⟨_, e, _⟩ := isItK_obj h3; exact Heap.lt_size e
    rw [upd_ne (Nat.ne_of_lt (Nat.lt_of_lt_of_le hlt hT))]
    exact (hf b hb).1
  done := by
    intro X hP hw hK hc i pins s σ H E I hf st hg
    subst hP hw hK
    obtain ⟨hz, hTI, ⟨x0, y0, u0, hTO⟩, h1, h2, h3⟩ := st
    obtain ⟨xs, ys, zs, q1, q2, q3, hi⟩ := hg
    obtain ⟨s1, r1, p1, l1⟩ := seqK I q1
    obtain ⟨s2, r2, p2, l2⟩ := seqK I q2
    obtain ⟨s3, r3, p3, l3⟩ := seqK I q3
    have hh : X.A.in1.handled = none := (show X.A.handled = none from I.ok.hd hc)
    have W := GoesN.zip3 (prog := X.prog) (w := X.w) (A := X.A) (elts := elts) (x1 := kk) (pos := tpos) S (drawsK hh k1 i1 a1 n1 s1.toArray) (drawsK hh k2 i2 a2 n2 s2.toArray) (drawsK hh k3 i3 a3 n3 s3.toArray)
    have hn : i = min (min s1.toArray.size s2.toArray.size) s3.toArray.size := by
      have c1 := r1.length
      have c2 := r2.length
      have c3 := r3.length
      simp only [List.size_toArray]
      omega
    subst hn
    exact W.stops s (fun s1 => Inv X pins σ H s1) E ⟨hz, hTI, ⟨_, _, _, hTO⟩, ⟨h1, p1⟩, ⟨h2, p2⟩, ⟨h3, p3⟩⟩ fun h' tk old htk => I.turnedL (t' := tk) (ch := [z, TI, TO, i1, i2, i3]) (fun b o hb e => old b o (fun q => hb (by
        have e' : b = z ∨ b = TO ∨ b = i1 ∨ b = i2 ∨ b = i3 := by simpa using q
        rcases e' with q | q | q | q | q <;> simp [q])) e) hf
  self := fun A i s Q E st h => wpAny_pyIter_zip st.1 h
def Itz2 (K : PySem.W.Frag) (k1 k2 : Bool) (a1 a2 : Addr) : It :=
  ⟨fun i H => ∃ (xs ys : List V) (x y : V), SqK K H k1 a1 xs ∧ SqK K H k2 a2 ys ∧ xs[i]? = some x ∧ ys[i]? = some y,
    fun i H v H' => ∃ T x y, v = .ref T ∧ H T = none ∧ H' = upd H T (.tup [x, y]) ∧ (∀ xs, SqK K H k1 a1 xs → xs[i]? = some x) ∧ ∀ xs, SqK K H k2 a2 xs → xs[i]? = some y,
    fun i H => ∃ xs ys : List V, SqK K H k1 a1 xs ∧ SqK K H k2 a2 ys ∧ i = min xs.length ys.length⟩
theorem turn_zip2 {P : Program} {w : World} {K : PySem.W.Frag} {elts : List Expr} {kk : Nat} {tpos : Pos} {k1 k2 : Bool} {a1 a2 z TI TO i1 i2 : Addr} (S : ZipSep2 z TI TO i1 i2 [i1, a1] [i2, a2]) (n1 : a1 ≠ i1) (n2 : a2 ≠ i2) :
    Turn P w K (.Tuple elts kk tpos) (Itz2 K k1 k2 a1 a2) [z, TI, TO, i1, i2] z (fun i h => IsZip h z TI TO .none ∧ IsTupOf2 h TI (.ref i1) (.ref i2) ∧ (∃ x y, IsTupOf2 h TO x y) ∧ IsItK k1 h i1 a1 i ∧ IsItK k2 h i2 a2 i) where
  mem := by simp
  obj := fun i h st b hb => by
    obtain ⟨hz, hTI, ⟨x, y, hTO⟩, h1, h2⟩ := st
    have e' : b = z ∨ b = TI ∨ b = TO ∨ b = i1 ∨ b = i2 := by simpa using hb
    rcases e' with q | q | q | q | q
    · rw [q]; exact ⟨_, hz, fun v q => nomatch q⟩
    · rw [q]; exact ⟨_, hTI, fun v q => nomatch q⟩
    · rw [q]; exact ⟨_, hTO, fun v q => nomatch q⟩
    · rw [q]; exact isItK_obj h1
    · rw [q]; exact isItK_obj h2
  keep := fun i h h' st k => by
    obtain ⟨hz, hTI, ⟨x, y, hTO⟩, h1, h2⟩ := st
    exact ⟨k z (by simp) _ hz, k TI (by simp) _ hTI, ⟨x, y, k TO (by simp) _ hTO⟩, isItK_at h1 fun o q => k i1 (by simp) o q, isItK_at h2 fun o q => k i2 (by simp) o q⟩
  item := by
    intro X hP hw hK hc i pins s σ H E I hf st hg
    subst hP hw hK
    obtain ⟨hz, hTI, ⟨x0, y0, hTO⟩, h1, h2⟩ := st
    obtain ⟨xs, ys, x, y, q1, q2, e1, e2⟩ := hg
    obtain ⟨s1, r1, p1, l1⟩ := seqK I q1
    obtain ⟨s2, r2, p2, l2⟩ := seqK I q2
    have hh : X.A.in1.handled = none := (show X.A.handled = none from I.ok.hd hc)
    have W := GoesN.zip2 (prog := X.prog) (w := X.w) (A := X.A) (elts := elts) (x1 := kk) (pos := tpos) S (drawsK hh k1 i1 a1 n1 s1.toArray) (drawsK hh k2 i2 a2 n2 s2.toArray)
    obtain ⟨v1, g1, w1⟩ := r1.get e1
    obtain ⟨v2, g2, w2⟩ := r2.get e2
    have hi : i < min s1.toArray.size s2.toArray.size := by
      have c1 := (List.getElem?_eq_some_iff.mp g1).1
      have c2 := (List.getElem?_eq_some_iff.mp g2).1
      simp only [List.size_toArray]
      omega
    refine W.goes i s (fun v s2 => ∃ x H', Inv X pins σ H' s2 ∧ RelV x v ∧ (Itz2 X.K k1 k2 a1 a2).yld i H x H' ∧ (IsZip s2.heap z TI TO .none ∧ IsTupOf2 s2.heap TI (.ref i1) (.ref i2) ∧ (∃ x y, IsTupOf2 s2.heap TO x y) ∧ IsItK k1 s2.heap i1 a1 (i + 1) ∧ IsItK k2 s2.heap i2 a2 (i + 1)) ∧ ∀ b ∈ [z, TI, TO, i1, i2], H' b = none) E hi ⟨hz, hTI, ⟨_, _, hTO⟩, ⟨h1, p1⟩, ⟨h2, p2⟩⟩ fun v h' tk ⟨T, x', y', ev, hT, d1, d2, ht⟩ st' old htk => ?_
    subst ev
    obtain ⟨hz', hTI', hTO', ⟨h1', _⟩, ⟨h2', _⟩⟩ := st'
    have f1 : x' = v1 := by simpa [g1] using d1.symm
    have f2 : y' = v2 := by simpa [g2] using d2.symm
    subst f1 f2
    have new : ObjOk X.prog X.w (upd H T (.tup [x, y])) h' T (.tup [x, y]) := ⟨by show 2 ≤ sizeLine; decide, [x', y'], .cons w1 (.cons w2 .nil), ht⟩
    have I1 : Inv X pins σ (upd H T (.tup [x, y])) { s with heap := h', toks := tk } :=
      I.turnedNew (ch := [z, TI, TO, i1, i2]) (fun b o hb e => old b o (fun q => hb (by
        have e' : b = z ∨ b = TO ∨ b = i1 ∨ b = i2 := by simpa using q
        rcases e' with q | q | q | q <;> simp [q])) e) hf hT new
    refine ⟨.ref T, _, I1, rfl, ⟨T, x, y, rfl, I.hok.fresh hT, rfl, fun l hl => by rw [sqK_inj I hl q1]; exact e1, fun l hl => by rw [sqK_inj I hl q2]; exact e2⟩, ⟨hz', hTI', hTO', h1', h2'⟩, fun b hb => ?_⟩
    have hlt : b < s.heap.objs.size := by
      have e' : b = z ∨ b = TI ∨ b = TO ∨ b = i1 ∨ b = i2 := by simpa using hb
      rcases e' with q | q | q | q | q
      · rw [q]; exact Heap.lt_size hz
      · rw [q]; exact Heap.lt_size hTI
      · rw [q]; exact Heap.lt_size hTO
      · rw [q]; obtain ⟨_, e, _⟩ := isItK_obj h1; exact Heap.lt_size e
      · rw [q]; obtain ⟨_, e, _⟩ := isItK_obj h2; exact Heap.lt_size e
    rw [upd_ne (Nat.ne_of_lt (Nat.lt_of_lt_of_le hlt hT))]
    exact (hf b hb).1
  done := by
    intro X hP hw hK hc i pins s σ H E I hf st hg
    subst hP hw hK
    obtain ⟨hz, hTI, ⟨x0, y0, hTO⟩, h1, h2⟩ := st
    obtain ⟨xs, ys, q1, q2, hi⟩ := hg
    obtain ⟨s1, r1, p1, l1⟩ := seqK I q1
    obtain ⟨s2, r2, p2, l2⟩ := seqK I q2
    have hh : X.A.in1.handled = none := (show X.A.handled = none from I.ok.hd hc)
    have W := GoesN.zip2 (prog := X.prog) (w := X.w) (A := X.A) (elts := elts) (x1 := kk) (pos := tpos) S (drawsK hh k1 i1 a1 n1 s1.toArray) (drawsK hh k2 i2 a2 n2 s2.toArray)
    have hn : i = min s1.toArray.size s2.toArray.size := by
      have c1 := r1.length
      have c2 := r2.length
      simp only [List.size_toArray]
      omega
    subst hn
    exact W.stops s (fun s1 => Inv X pins σ H s1) E ⟨hz, hTI, ⟨_, _, hTO⟩, ⟨h1, p1⟩, ⟨h2, p2⟩⟩ fun h' tk old htk => I.turnedL (t' := tk) (ch := [z, TI, TO, i1, i2]) (fun b o hb e => old b o (fun q => hb (by
        have e' : b = z ∨ b = TO ∨ b = i1 ∨ b = i2 := by simpa using q
        rcases e' with q | q | q | q <;> simp [q])) e) hf
  self := fun A i s Q E st h => wpAny_pyIter_zip st.1 h
section
variable {X : Cx} {c : Cn} {W : WX} {tg e a b : Expr} {es : List Expr} {pos : Pos}
def zip2D : List D → List D → List D
  | x :: xs, y :: ys => .tup [x, y] :: zip2D xs ys
  | _, _ => []
def zip3D : List D → List D → List D → List D
  | x :: xs, y :: ys, z :: zs => .tup [x, y, z] :: zip3D xs ys zs
  | _, _, _ => []
theorem zip2D_len : ∀ xs ys : List D, (zip2D xs ys).length = min xs.length ys.length
  | [], _ => by simp [zip2D]
  | _ :: _, [] => by simp [zip2D]
  | _ :: xs, _ :: ys => by simp [zip2D, zip2D_len xs ys]
theorem zip3D_len : ∀ xs ys zs : List D, (zip3D xs ys zs).length = min (min xs.length ys.length) zs.length
  | [], _, _ => by simp [zip3D]
  | _ :: _, [], _ => by simp [zip3D]
  | _ :: _, _ :: _, [] => by simp [zip3D]
  | _ :: xs, _ :: ys, _ :: zs => by simp [zip3D, zip3D_len xs ys zs]
theorem zip2D_get : ∀ {xs ys : List D} {i : Nat} {d : D}, (zip2D xs ys)[i]? = some d → ∃ x y, xs[i]? = some x ∧ ys[i]? = some y ∧ d = .tup [x, y]
  | [], _, i, d, h => by simp [zip2D] at h
  | _ :: _, [], i, d, h => by simp [zip2D] at h
  | x :: xs, y :: ys, 0, d, h => ⟨x, y, rfl, rfl, by simpa [zip2D] using h.symm⟩
  | x :: xs, y :: ys, i + 1, d, h => zip2D_get (i := i) (by simpa [zip2D] using h)
theorem zip3D_get : ∀ {xs ys zs : List D} {i : Nat} {d : D}, (zip3D xs ys zs)[i]? = some d → ∃ x y z, xs[i]? = some x ∧ ys[i]? = some y ∧ zs[i]? = some z ∧ d = .tup [x, y, z]
  | [], _, _, i, d, h => by simp [zip3D] at h
  | _ :: _, [], _, i, d, h => by simp [zip3D] at h
  | _ :: _, _ :: _, [], i, d, h => by simp [zip3D] at h
  | x :: xs, y :: ys, z :: zs, 0, d, h => ⟨x, y, z, rfl, rfl, rfl, by simpa [zip3D] using h.symm⟩
  | x :: xs, y :: ys, z :: zs, i + 1, d, h => zip3D_get (i := i) (by simpa [zip3D] using h)
/-- a list, a tuple: its items and kind -/
@[simp] def srcOf : D → Option (Bool × List D)
  | .lst ds => some (false, ds)
  | .tup ds => some (true, ds)
  | _ => none
theorem src_ok [g : Gd X c] {B : Bs} {d : D} {k : Bool} {ds : List D} {v : V} (h : IsD c.n B d v) (e : srcOf d = some (k, ds)) : ∃ a vs, v = .ref a ∧ IsDs c.n B ds vs ∧ ∀ (B2 : Bs) (σ : Sg) (H : Hp) (st : MS) (fs : Fs), B.le B2 → Rel c B2 σ H st fs → SqK X.K H k a vs := by
  have hK : c.n.K = X.K := by rw [g.n]
  cases d with
  | lst xs =>
    cases e
    obtain ⟨a, vs, rfl, h2, h3⟩ := h
    exact ⟨a, vs, rfl, h3, fun B2 σ H st fs l r => .inl (rd_mono (l.h0.trans r.lv.up) h2)⟩
  | tup xs =>
    cases e
    obtain ⟨a, vs, rfl, h2, h3⟩ := h
    rw [hK] at h2
    exact ⟨a, vs, rfl, h3, fun B2 σ H st fs l r => sqT_mono (l.h0.trans r.lv.up) h2⟩
  | _ => cases e
theorem walk_zip2 [g : Gd X c] {B : Bs} {k1 k2 : Bool} {a1 a2 : Addr} {us vs : List V} {ds es : List D} (i1 : IsDs c.n B ds us) (i2 : IsDs c.n B es vs)
    (h1 : ∀ (B2 : Bs) (σ : Sg) (H : Hp) (st : MS) (fs : Fs), B.le B2 → Rel c B2 σ H st fs → SqK X.K H k1 a1 us) (h2 : ∀ (B2 : Bs) (σ : Sg) (H : Hp) (st : MS) (fs : Fs), B.le B2 → Rel c B2 σ H st fs → SqK X.K H k2 a2 vs) : WalkD c B (zip2D ds es) (Itz2 X.K k1 k2 a1 a2) := fun j B2 σ2 H2 s2 fs2 l r => by
  have q1 := h1 B2 σ2 H2 s2 fs2 l r
  have q2 := h2 B2 σ2 H2 s2 fs2 l r
  refine ⟨fun d hd => ?_, fun hj => ⟨us, vs, q1, q2, by rw [zip2D_len] at hj; rw [i1.length, i2.length]; exact hj.symm⟩⟩
  obtain ⟨x, y, hx, hy, rfl⟩ := zip2D_get hd
  obtain ⟨u, hu, iu⟩ := i1.get hx
  obtain ⟨v, hv, iv⟩ := i2.get hy
  refine ⟨⟨us, vs, u, v, q1, q2, hu, hv⟩, fun w H3 ⟨T, u', v', e1, e2, e3, e4, e5⟩ => ?_⟩
  have f1 := e4 us q1
  have f2 := e5 vs q2
  rw [hu] at f1
  rw [hv] at f2
  cases f1
  cases f2
  subst e1
  subst e3
  obtain ⟨le, r3⟩ := r.newD (o := .tup [u, v]) e2
  exact ⟨_, le, r3, T, [u, v], rfl, .inl (.inl upd_same), _, _, rfl, IsD.mono (l.trans le) x u iu, _, _, rfl, IsD.mono (l.trans le) y v iv, rfl⟩
theorem walk_zip3 [g : Gd X c] {B : Bs} {k1 k2 k3 : Bool} {a1 a2 a3 : Addr} {us vs ws : List V} {ds es fs : List D} (i1 : IsDs c.n B ds us) (i2 : IsDs c.n B es vs) (i3 : IsDs c.n B fs ws)
    (h1 : ∀ (B2 : Bs) (σ : Sg) (H : Hp) (st : MS) (fs : Fs), B.le B2 → Rel c B2 σ H st fs → SqK X.K H k1 a1 us) (h2 : ∀ (B2 : Bs) (σ : Sg) (H : Hp) (st : MS) (fs : Fs), B.le B2 → Rel c B2 σ H st fs → SqK X.K H k2 a2 vs) (h3 : ∀ (B2 : Bs) (σ : Sg) (H : Hp) (st : MS) (fs : Fs), B.le B2 → Rel c B2 σ H st fs → SqK X.K H k3 a3 ws) : WalkD c B (zip3D ds es fs) (Itz3 X.K k1 k2 k3 a1 a2 a3) := fun j B2 σ2 H2 s2 fs2 l r => by
  have q1 := h1 B2 σ2 H2 s2 fs2 l r
  have q2 := h2 B2 σ2 H2 s2 fs2 l r
  have q3 := h3 B2 σ2 H2 s2 fs2 l r
  refine ⟨fun d hd => ?_, fun hj => ⟨us, vs, ws, q1, q2, q3, by rw [zip3D_len] at hj; rw [i1.length, i2.length, i3.length]; exact hj.symm⟩⟩
  obtain ⟨x, y, z, hx, hy, hz, rfl⟩ := zip3D_get hd
  obtain ⟨u, hu, iu⟩ := i1.get hx
  obtain ⟨v, hv, iv⟩ := i2.get hy
  obtain ⟨w0, hw, iw⟩ := i3.get hz
  refine ⟨⟨us, vs, ws, u, v, w0, q1, q2, q3, hu, hv, hw⟩, fun w H3 ⟨T, u', v', w', e1, e2, e3, e4, e5, e6⟩ => ?_⟩
  have f1 := e4 us q1
  have f2 := e5 vs q2
  have f3 := e6 ws q3
  rw [hu] at f1
  rw [hv] at f2
  rw [hw] at f3
  cases f1
  cases f2
  cases f3
  subst e1
  subst e3
  obtain ⟨le, r3⟩ := r.newD (o := .tup [u, v, w0]) e2
  exact ⟨_, le, r3, T, [u, v, w0], rfl, .inl (.inl upd_same), _, _, rfl, IsD.mono (l.trans le) x u iu, _, _, rfl, IsD.mono (l.trans le) y v iv, _, _, rfl, IsD.mono (l.trans le) z w0 iw, rfl⟩
@[simp] def itemsZ2 : List D → MS → Rs (List D)
  | [x, y], s => match srcOf x, srcOf y with
    | some (_, xs), some (_, ys) => .ok (zip2D xs ys) s
    | _, _ => .bad
  | _, _ => .bad
@[simp] def itemsZ3 : List D → MS → Rs (List D)
  | [x, y, z], s => match srcOf x, srcOf y, srcOf z with
    | some (_, xs), some (_, ys), some (_, zs) => .ok (zip3D xs ys zs) s
    | _, _, _ => .bad
  | _, _ => .bad
@[simp ↓] def mZip2 (ms : Mo (List D)) (st : MS) : Rs (List D) := (ms st).then itemsZ2
@[simp ↓] def mZip3 (ms : Mo (List D)) (st : MS) : Rs (List D) := (ms st).then itemsZ3
theorem zipCell {N d : Nat} {pins : List (Addr × Obj)} {σ : L2.St} {H : Hp} {s : Shared} (I : L2.Inv X pins σ H s) {b : Addr} (h : s.heap.objs.size ≤ b) : FpOk X pins H b := I.fpOk h (I.hok.fresh h)
def iZip2 (K : PySem.W.Frag) (ta : TA) : TI := fun σ H R => ta σ H fun vs H1 => ∃ k1 k2 a b xs ys, vs = [.ref a, .ref b] ∧ SqK K H1 k1 a xs ∧ SqK K H1 k2 b ys ∧ R (Itz2 K k1 k2 a b) H1
def iZip3 (K : PySem.W.Frag) (ta : TA) : TI := fun σ H R => ta σ H fun vs H1 => ∃ k1 k2 k3 a b d xs ys zs, vs = [.ref a, .ref b, .ref d] ∧ SqK K H1 k1 a xs ∧ SqK K H1 k2 b ys ∧ SqK K H1 k3 d zs ∧ R (Itz3 K k1 k2 k3 a b d) H1
theorem itK0 {k : Bool} {h : Heap} {it a : Addr} (e : h.get? it = some (itObj k a)) : IsItK k h it a 0 := by
  cases k with
  | true => exact ⟨_, e, rfl, rfl⟩
  | false => exact ⟨_, e, rfl, rfl⟩
theorem pi_zip2 {e1 e2 : Expr} {ta : TA} {p pos tpos : Pos} {elts : List Expr} {kk : Nat} (hg : Gl X "zip") (hm : X.mg "zip" = none) (ha : PA X [e1, e2] ta)
    (hs : starEach [e1, e2] X.env = (false, eval e1 X.env) :: starEach [e2] X.env := by rfl) (hpl : (backTo pos (starEach [e2] X.env)).any (·.1) = false := by rfl) :
    PI X (.Tuple elts kk tpos) (.Call (.Name "zip" p) [e1, e2] [] pos) (iZip2 X.K ta) := by
  refine ⟨fun pins s σ H R I h => ?_⟩
  refine Call_ (ld_blt I hg hm PyProof.Rows.boot_zip (PyProof.Rows.callWith_type1 (thn (ha.run pos pins s σ H _ I h) fun us s1 ⟨vs, H1, I1, r1, q1⟩ => ?_) hs hpl))
  obtain ⟨k1, k2, a, b, xs, ys, ex, hqx, hqy, q⟩ := q1
  subst ex
  cases r1 with
  | cons r rr =>
    cases rr with
    | cons r' rr =>
      cases rr
      cases r
      cases r'
      obtain ⟨its, rv, p1, l1⟩ := seqK I1 hqx
      obtain ⟨its2, rv2, p2, l2⟩ := seqK I1 hqy
      refine zip_begins2 (begK k1 a its.toArray) (begK k2 b its2.toArray) p1 p2 fun h' hz hTI hTO h1 h2 hsz hk => wpAny_pyIter_zip hz ?_
      have I2 : Inv X pins σ H1 { s1 with heap := h' } := I1.kept (t' := s1.toks) hk
      have S := zip_sep2 (N := s1.heap.objs.size) (fp1 := [a]) (fp2 := [b]) (fun x hx => by rw [List.mem_singleton.mp hx]; exact l1) (fun x hx => by rw [List.mem_singleton.mp hx]; exact l2)
      refine ⟨s1.heap.objs.size + 4, [s1.heap.objs.size + 4, s1.heap.objs.size + 2, s1.heap.objs.size + 3, s1.heap.objs.size, s1.heap.objs.size + 1], _, _, H1, rfl, I2, turn_zip2 (k1 := k1) (k2 := k2) S (Nat.ne_of_lt l1) (Nat.ne_of_lt (Nat.lt_succ_of_lt l2)), ⟨hz, hTI, ⟨_, _, hTO⟩, itK0 h1, itK0 h2⟩, fun c hcm => ?_, q⟩
      have hle : s1.heap.objs.size ≤ c := by
        have e' : c = s1.heap.objs.size + 4 ∨ c = s1.heap.objs.size + 2 ∨ c = s1.heap.objs.size + 3 ∨ c = s1.heap.objs.size ∨ c = s1.heap.objs.size + 1 := by simpa using hcm
        rcases e' with z | z | z | z | z <;> rw [z] <;> first | exact Nat.le_refl _ | exact Nat.le_add_right _ _
      exact I1.fpOk hle (I1.hok.fresh hle)
theorem pi_zip3 {e1 e2 e3 : Expr} {ta : TA} {p pos tpos : Pos} {elts : List Expr} {kk : Nat} (hg : Gl X "zip") (hm : X.mg "zip" = none) (ha : PA X [e1, e2, e3] ta)
    (hs : starEach [e1, e2, e3] X.env = (false, eval e1 X.env) :: starEach [e2, e3] X.env := by rfl) (hpl : (backTo pos (starEach [e2, e3] X.env)).any (·.1) = false := by rfl) :
    PI X (.Tuple elts kk tpos) (.Call (.Name "zip" p) [e1, e2, e3] [] pos) (iZip3 X.K ta) := by
  refine ⟨fun pins s σ H R I h => ?_⟩
  refine Call_ (ld_blt I hg hm PyProof.Rows.boot_zip (PyProof.Rows.callWith_type1 (thn (ha.run pos pins s σ H _ I h) fun us s1 ⟨vs, H1, I1, r1, q1⟩ => ?_) hs hpl))
  obtain ⟨k1, k2, k3, a, b, d, xs, ys, zs, ex, hqx, hqy, hqz, q⟩ := q1
  subst ex
  cases r1 with
  | cons r rr =>
    cases rr with
    | cons r' rr =>
      cases rr with
      | cons r'' rr =>
        cases rr
        cases r
        cases r'
        cases r''
        obtain ⟨its, rv, p1, l1⟩ := seqK I1 hqx
        obtain ⟨its2, rv2, p2, l2⟩ := seqK I1 hqy
        obtain ⟨its3, rv3, p3, l3⟩ := seqK I1 hqz
        refine zip_begins3 (begK k1 a its.toArray) (begK k2 b its2.toArray) (begK k3 d its3.toArray) p1 p2 p3 fun h' hz hTI hTO h1 h2 h3 hsz hk => wpAny_pyIter_zip hz ?_
        have I2 : Inv X pins σ H1 { s1 with heap := h' } := I1.kept (t' := s1.toks) hk
        have S := zip_sep3 (N := s1.heap.objs.size) (fp1 := [a]) (fp2 := [b]) (fp3 := [d]) (fun x hx => by rw [List.mem_singleton.mp hx]; exact l1) (fun x hx => by rw [List.mem_singleton.mp hx]; exact l2) (fun x hx => by rw [List.mem_singleton.mp hx]; exact l3)
        refine ⟨s1.heap.objs.size + 5, [s1.heap.objs.size + 5, s1.heap.objs.size + 3, s1.heap.objs.size + 4, s1.heap.objs.size, s1.heap.objs.size + 1, s1.heap.objs.size + 2], _, _, H1, rfl, I2, turn_zip3 (k1 := k1) (k2 := k2) (k3 := k3) S (Nat.ne_of_lt l1) (Nat.ne_of_lt (Nat.lt_succ_of_lt l2)) (Nat.ne_of_lt (Nat.lt_succ_of_lt (Nat.lt_succ_of_lt l3))), ⟨hz, hTI, ⟨_, _, _, hTO⟩, itK0 h1, itK0 h2, itK0 h3⟩, fun c hcm => ?_, q⟩
        have hle : s1.heap.objs.size ≤ c := by
          have e' : c = s1.heap.objs.size + 5 ∨ c = s1.heap.objs.size + 3 ∨ c = s1.heap.objs.size + 4 ∨ c = s1.heap.objs.size ∨ c = s1.heap.objs.size + 1 ∨ c = s1.heap.objs.size + 2 := by simpa using hcm
          rcases e' with z | z | z | z | z | z <;> rw [z] <;> first | exact Nat.le_refl _ | exact Nat.le_add_right _ _
        exact I1.fpOk hle (I1.hok.fresh hle)
theorem ie_zip2 [gd : Gd X c] {ms : Mo (List D)} {p tpos : Pos} {elts : List Expr} {kk : Nat} (hg : Gl X "zip") (hm : X.mg "zip" = none) (ha : AE X c W [a, b] ms) (hs : starEach [a, b] X.env = (false, eval a X.env) :: starEach [b] X.env := by rfl) (hpl : (backTo pos (starEach [b] X.env)).any (·.1) = false := by rfl) : IE X c W (.Tuple elts kk tpos) (.Call (.Name "zip" p) [a, b] [] pos) (mZip2 ms) :=
  ⟨piImp (pi_zip2 hg hm ha.pa hs hpl) fun σ H R ⟨B, st, fs, r, p⟩ => ⟨B, st, fs, r, (Post.bind p).up (.refl B) fun ds s k B1 H1 vs l1 r1 i1 => by
    unfold itemsZ2 at k
    split at k
    · rename_i x y
      split at k
      · rename_i k1 xs k2 ys ex ey
        obtain ⟨u, w, rfl, g1, v, w2, rfl, g2, g3⟩ := i1
        cases (show w2 = [] from g3)
        obtain ⟨a1, us, rfl, j1, f1⟩ := src_ok (X := X) g1 ex
        obtain ⟨a2, vs, rfl, j2, f2⟩ := src_ok (X := X) g2 ey
        exact ⟨k1, k2, a1, a2, us, vs, rfl, f1 B1 σ H1 s fs (.refl _) r1, f2 B1 σ H1 s fs (.refl _) r1, k B1 H1 _ l1 r1 (walk_zip2 j1 j2 f1 f2)⟩
      · exact k.elim
    · exact k.elim⟩⟩
theorem ie_zip3 [gd : Gd X c] {e3 : Expr} {ms : Mo (List D)} {p tpos : Pos} {elts : List Expr} {kk : Nat} (hg : Gl X "zip") (hm : X.mg "zip" = none) (ha : AE X c W [a, b, e3] ms) (hs : starEach [a, b, e3] X.env = (false, eval a X.env) :: starEach [b, e3] X.env := by rfl) (hpl : (backTo pos (starEach [b, e3] X.env)).any (·.1) = false := by rfl) : IE X c W (.Tuple elts kk tpos) (.Call (.Name "zip" p) [a, b, e3] [] pos) (mZip3 ms) :=
  ⟨piImp (pi_zip3 hg hm ha.pa hs hpl) fun σ H R ⟨B, st, fs, r, p⟩ => ⟨B, st, fs, r, (Post.bind p).up (.refl B) fun ds s k B1 H1 vs l1 r1 i1 => by
    unfold itemsZ3 at k
    split at k
    · rename_i x y z
      split at k
      · rename_i k1 xs k2 ys k3 zs ex ey ez
        obtain ⟨u, w, rfl, g1, v, w2, rfl, g2, v3, w3, rfl, g3, g4⟩ := i1
        cases (show w3 = [] from g4)
        obtain ⟨a1, us, rfl, j1, f1⟩ := src_ok (X := X) g1 ex
        obtain ⟨a2, vs, rfl, j2, f2⟩ := src_ok (X := X) g2 ey
        obtain ⟨a3, ws, rfl, j3, f3⟩ := src_ok (X := X) g3 ez
        exact ⟨k1, k2, k3, a1, a2, a3, us, vs, ws, rfl, f1 B1 σ H1 s fs (.refl _) r1, f2 B1 σ H1 s fs (.refl _) r1, f3 B1 σ H1 s fs (.refl _) r1, k B1 H1 _ l1 r1 (walk_zip3 j1 j2 j3 f1 f2 f3)⟩
      · exact k.elim
    · exact k.elim⟩⟩
end
end Y
namespace Y
open PySem PySem.Spec PyProof.Rows L2
/-! ### dicts with int and text keys -/
section
variable {κ : Type} [DecidableEq κ]
def lookD {α : Type} (k : κ) : List κ → List α → Option α
  | q :: ks, d :: ds => if q = k then some d else lookD k ks ds
  | _, _ => none
def putKs (ks : List κ) (k : κ) : List κ := if k ∈ ks then ks else ks ++ [k]
def putDs {α : Type} (ks : List κ) (xs : List α) (k : κ) (x : α) : List α := if k ∈ ks then List.zipWith (fun q y => if q = k then x else y) ks xs else xs ++ [x]
theorem valV_zip (k : κ) : ∀ (ks : List κ) (vs : List V), valV (ks.zip vs) k = lookD k ks vs
  | [], _ => rfl
  | _ :: _, [] => rfl
  | q :: ks, v :: vs => by
    rw [List.zip_cons_cons]
    unfold lookD
    by_cases e : q = k
    · rw [if_pos e, valV_pos (by exact e)]
    · rw [if_neg e, ← valV_zip k ks vs]
      unfold valV
      rw [List.find?_cons]
      have e' : decide (q = k) = false := decide_eq_false e
      simp only [e']
theorem any_zip (k : κ) : ∀ (ks : List κ) (vs : List V), ks.length = vs.length → ((ks.zip vs).any fun kv => decide (kv.1 = k)) = decide (k ∈ ks)
  | [], _, _ => by simp
  | _ :: _, [], h => by cases h
  | q :: ks, v :: vs, h => by
    rw [List.zip_cons_cons, List.any_cons, any_zip k ks vs (by simpa using h), Bool.eq_iff_iff]
    simp only [Bool.or_eq_true, decide_eq_true_eq, List.mem_cons]
    constructor
    · rintro (z | z)
      · exact .inl z.symm
      · exact .inr z
    · rintro (z | z)
      · exact .inl z.symm
      · exact .inr z
theorem putK_zip (k : κ) (v : V) {ks : List κ} {vs : List V} (h : ks.length = vs.length) : putK (ks.zip vs) k v = (putKs ks k).zip (putDs ks vs k v) := by
  unfold putK putKs putDs
  rw [any_zip k ks vs h]
  by_cases e : k ∈ ks
  · rw [if_pos (decide_eq_true e), if_pos e, if_pos e]
    clear e
    induction ks generalizing vs with
    | nil => rfl
    | cons q ks ih =>
      cases vs with
      | nil => cases h
      | cons w vs =>
        rw [List.zip_cons_cons, List.map_cons, ih (by simpa using h), List.zipWith_cons_cons, List.zip_cons_cons]
        by_cases e : q = k <;> simp [e]
  · rw [if_neg (by simpa using e), if_neg e, if_neg e, List.zip_append h]
    rfl
theorem putKs_len (ks : List κ) {α : Type} {xs : List α} (k : κ) (x : α) (h : ks.length = xs.length) : (putKs ks k).length = (putDs ks xs k x).length := by
  unfold putKs putDs
  by_cases e : k ∈ ks
  · rw [if_pos e, if_pos e, List.length_zipWith]
    omega
  · rw [if_neg e, if_neg e, List.length_append, List.length_append, h]
    rfl
theorem isDs_look {n : Kn} {B : Bs} {k : κ} {d : D} : ∀ {ks : List κ} {ds : List D} {vs : List V}, IsDs n B ds vs → lookD k ks ds = some d → ∃ v, lookD k ks vs = some v ∧ IsD n B d v
  | [], _, _, _, h => by cases h
  | _ :: _, [], _, _, h => by cases h
  | q :: ks, x :: ds, vs, i, h => by
    obtain ⟨v, r, rfl, h2, h3⟩ := i
    unfold lookD at h ⊢
    by_cases e : q = k
    · rw [if_pos e] at h ⊢
      cases h
      exact ⟨v, rfl, h2⟩
    · rw [if_neg e] at h ⊢
      exact isDs_look h3 h
theorem isDs_none {n : Kn} {B : Bs} {k : κ} : ∀ {ks : List κ} {ds : List D} {vs : List V}, IsDs n B ds vs → (lookD k ks vs).isSome = (lookD k ks ds).isSome
  | [], _, _, _ => rfl
  | _ :: _, [], vs, i => by cases (show vs = [] from i); rfl
  | q :: ks, x :: ds, vs, i => by
    obtain ⟨v, r, rfl, h2, h3⟩ := i
    unfold lookD
    by_cases e : q = k
    · rw [if_pos e, if_pos e]; rfl
    · rw [if_neg e, if_neg e]
      exact isDs_none h3
theorem isDs_put {n : Kn} {B : Bs} {k : κ} {d : D} {v : V} (hd : IsD n B d v) : ∀ {ks : List κ} {ds : List D} {vs : List V}, IsDs n B ds vs → ks.length = ds.length → IsDs n B (putDs ks ds k d) (putDs ks vs k v) := by
  intro ks ds vs i hl
  unfold putDs
  by_cases e : k ∈ ks
  · rw [if_pos e, if_pos e]
    clear e
    induction ks generalizing ds vs with
    | nil =>
      cases ds with
      | nil => cases (show vs = [] from i); rfl
      | cons _ _ => cases hl
    | cons q ks ih =>
      cases ds with
      | nil => cases hl
      | cons x ds =>
        obtain ⟨w, r, rfl, h2, h3⟩ := i
        rw [List.zipWith_cons_cons, List.zipWith_cons_cons]
        refine ⟨_, _, rfl, ?_, ih h3 (by simpa using hl)⟩
        by_cases e : q = k
        · rw [if_pos e, if_pos e]; exact hd
        · rw [if_neg e, if_neg e]; exact h2
  · rw [if_neg e, if_neg e]
    exact i.append ⟨v, [], rfl, hd, rfl⟩
end
section
variable {X : Cx} {c : Cn} {W : WX} {tg e a b : Expr} {es : List Expr} {pos : Pos}
theorem keyOf_v {n : Kn} {B : Bs} {H : Hp} {d : D} {k : Key} {v : V} (h : VD n B H d v) (e : keyOf d = some k) : v = kV k := by
  cases d with
  | int i => cases e; exact h
  | str i => cases e; exact h
  | _ => cases e
/-- d[k] -/
@[simp ↓] def mDGet (ma mb : Mo E1) (st : MS) : Rs E1 := (ma st).then fun x s1 => (mb s1).then fun y s2 => match val x s2, (val y s2).bind keyOf with
  | some (.dct ks ds), some k => opt ((lookD k ks ds).map E1.d) s2
  | _, _ => .bad
theorem dct_get {B : Bs} {H : Hp} {ks : List Key} {ds : List D} {v : V} {k : Key} (h : VD c.n B H (.dct ks ds) v) : ∃ a vs, v = .ref a ∧ IsDs c.n B ds vs ∧ DGet H a (kV k) (lookD k ks vs) := by
  obtain ⟨a, vs, rfl, h2, h3, h4⟩ := h
  exact ⟨a, vs, rfl, h4, .inl ⟨ks.zip vs, k, h2, rfl, (valV_zip k ks vs).symm⟩⟩
theorem ee_dget [g : Gd X c] (hu : X.A.units + 64 < cLine) {ma mb : Mo E1} (ha : EE X c W a ma) (hb : EE X c W b mb) (hs : NoSl b := by exact fun _ _ => rfl) : EE X c W (.Subscript a b pos) (mDGet ma mb) :=
  ⟨peImp (pe_dget (by omega) ha.pe hb.pe hs) fun σ H Q ⟨B, st, fs, r, p⟩ => ⟨B, st, fs, r, (Post.bind p).up (.refl B) fun x s1 k B1 H1 v1 l1 r1 i1 => ⟨B1, s1, fs, r1, (Post.bind k).up l1 fun y s2 k2 B2 H2 v2 l2 r2 i2 => by
    split at k2
    · rename_i ks ds q ex ey
      obtain ⟨dy, ey1, ey2⟩ := Option.bind_eq_some_iff.mp ey
      have hk := keyOf_v (val_ok r2 i2 ey1) ey2
      obtain ⟨a, vs, rfl, i4, hg⟩ := dct_get (k := q) (val_ok r2 (i1.mono l2) ex)
      cases hl : lookD q ks ds with
      | none => rw [hl] at k2; exact k2.elim
      | some d =>
        rw [hl] at k2
        obtain ⟨w, hw, iw⟩ := isDs_look i4 hl
        rw [hw] at hg
        exact ⟨a, w, rfl, by rw [hk]; exact hg, k2 B2 H2 w (l1.trans l2) r2 iw⟩
    · exact k2.elim⟩⟩⟩
/-- d[k] = v -/
@[simp ↓] def mDPut (me : Mo D) (mx mi : Mo E1) (st : MS) : RSt := (me st).st fun d s1 => (mx s1).st fun x s2 => (mi s2).st fun i s3 => match (val i s3).bind keyOf, thing x s3 with
  | some k, some (.k ks ds) => if decide (ks.length < lim) = true then .nx (putT x (.k (putKs ks k) (putDs ks ds k d)) s3) else .bad
  | _, _ => .bad
theorem se_dput [g : Gd X c] (hu : X.A.units + 64 < cLine) {v : Expr} {me : Mo D} {mx mi : Mo E1} {p : Pos} (hv : DE X c W v me) (ha : EE X c W a mx) (hb : EE X c W b mi)
    (hs : swapsWith v (some (.Subscript a b p)) pos.line X.env = pure false := by rfl) : SE X c W (.Assign [.Subscript a b p] v pos) (mDPut me mx mi) :=
  ⟨psImp (ps_dput (by omega) ha.pe hb.pe hv.pe hs) fun D σ H ⟨B, st, r, p⟩ => ⟨B, st, [], r, (PostS.bind p).up (.refl B) fun d s1 k B1 H1 v1 l1 r1 i1 =>
    ⟨B1, s1, [], r1, (PostS.bind (σ := σ) k).up l1 fun x s2 k2 B2 H2 v2 l2 r2 i2 => ⟨B2, s2, [], r2, (PostS.bind (σ := σ) k2).up (l1.trans l2) fun i s3 k3 B3 H3 v3 l3 r3 i3 => by
      split at k3
      · rename_i q ks ds ey ex
        split at k3
        · rename_i hl
          obtain ⟨dy, ey1, ey2⟩ := Option.bind_eq_some_iff.mp ey
          have hk := keyOf_v (val_ok r3 i3 ey1) ey2
          obtain ⟨a, rfl, ⟨vs, hvs, hlen, iv⟩, wr⟩ := thing_ok r3 (i2.mono l3) ex
          have hlz : (ks.zip vs).length < sizeLine := by
            have := lim_lt hl
            rw [List.length_zip]
            omega
          have hvl := iv.length
          have i1' := IsD.mono (l2.trans l3) d v1 i1
          refine ⟨a, _, rfl, .inl ⟨ks.zip vs, q, hvs, hk, hlz, rfl⟩, ?_⟩
          rw [putK_zip q v1 (by omega)]
          exact k3 B3 σ _ ((l1.trans l2).trans l3) (wr _ (.k (putKs ks q) (putDs ks ds q d)) ⟨putDs ks vs q v1, upd_same, putKs_len ks q d hlen, isDs_put i1' iv hlen⟩)
        · exact k3.elim
      · exact k3.elim⟩⟩⟩⟩
/-- {} -/
@[simp ↓] def mDNewK (st : MS) : Rs EX := .ok (.f (.k [] [])) st
theorem ge_dnewK : GE X c W (.Dict [] [] pos) mDNewK := ⟨peImp pe_dnewK fun σ H Q ⟨B, st, fs, r, p⟩ q hq => p B _ q (.refl B) (r.newF hq ⟨[], upd_same, rfl, rfl⟩)⟩
end
end Y
namespace Y
open PySem PySem.Spec PyProof.Rows L2
/-! ### sorted of a tuple of ints -/
section
variable {prog : Program} {w : World} {A : Around} {E : Value → Shared → Prop} {s : Shared}
theorem tup_collect {t : Addr} {us : List Value} {Q : List Value → Shared → Prop} (ht : s.heap.IsTuple t us.toArray) (hz : us.length ≤ sizeLine)
    (q : Q us { s with heap := (s.heap.push (seqObj "list" #[] 0)).update s.heap.objs.size (Obj.mapSeq (· ++ us.toArray)) }) : wpAny (model prog w) A (collect (.ref t)) Q E s := by
  obtain ⟨ob, hob, hcls, ep, hdat⟩ := id ht
  have new0 : (s.heap.push (seqObj "list" #[] 0)).get? s.heap.objs.size = some (seqObj "list" #[] 0) := Heap.get?_push_size _ rfl
  have old0 : (s.heap.push (seqObj "list" #[] 0)).get? t = some ob := Heap.get?_push_of_some _ hob
  have isT : (Value.type "tuple" == Value.type "list" || Value.type "tuple" == Value.type "tuple") = true := by decide +kernel
  unfold collect
  refine wpAny_bind (wpAny_runValue (codeAny_builtin entry_proto_collect' ?_))
  show wpAny (model prog w) _ (do again (.builtin "list.__iadd__" ⟨[← newList [], .ref t], []⟩)) _ _ s
  refine wpAny_bind (wpAny_newList (wpAny_pure ⟨Code.quiet_builtin _ (by decide +kernel), codeAny_builtin entry_list_iadd' ?_⟩))
  show wpAny (model prog w) _ (Builtin.List.listExtendWith (.ref s.heap.objs.size) (.ref t) (.ref s.heap.objs.size)) _ _ { s with heap := s.heap.push (seqObj "list" #[] 0) }
  unfold Builtin.List.listExtendWith
  refine wpAny_bind (wpAny_typeOf (T := "tuple") ⟨ob, old0, hcls⟩ ?_)
  rw [if_pos (by first | exact isT | simpa using isT | decide +kernel)]
  refine wpAny_bind (listItems_at old0 hdat ?_)
  refine wpAny_bind (listItems_at (xs := #[]) (n := 0) new0 rfl ?_)
  rw [if_neg (by simp)]
  refine wpAny_bind (listUpdate_at (xs := #[]) (n := 0) new0 rfl ?_ (Nat.zero_le _) (by rw [Array.size_append, List.size_toArray]; show 0 + us.length ≤ sizeLine + 1; omega))
  refine wpAny_pure ?_
  refine wpAny_bind (wpAny_load (get?_update_seq new0 _) ?_)
  show wpAny (model prog w) _ (pure ((#[] : Array Value) ++ us.toArray).toList) Q E _
  have e : ((#[] : Array Value) ++ us.toArray).toList = us := by simp
  rw [e]
  exact wpAny_pure q
theorem tup_sorted {t : Addr} {us : List Value} {ns : List Int} {Q : Value → Shared → Prop} (ht : s.heap.IsTuple t us.toArray) (hz : us.length ≤ sizeLine) (hi : IntsAre us ns)
    (q : ∀ out : List Value, SrtO.Srtd SrtO.ltIv out → SrtO.Stb SrtO.ltIv out us → Q (.ref (s.heap.objs.size + 1)) { s with heap := sortedAll s.heap us out.toArray }) : wpAny (model prog w) A (call (.builtin "sorted") [.ref t]) Q E s := by
  refine Calls.call_function_entry kind_sorted plain_sorted entry_sorted (args_sorted1 _) ?_
  unfold Builtin.«sorted»
  refine wpAny_bind (m := checkCount "sorted" 1 1 _) (wpAny_pure ?_)
  refine wpAny_bind (tup_collect ht hz ?_)
  refine wpAny_bind (wpAny_newList ?_ hz)
  have n1 : ((s.heap.push (seqObj "list" #[] 0)).update s.heap.objs.size (Obj.mapSeq (· ++ us.toArray))).objs.size = s.heap.objs.size + 1 := by rw [Heap.size_update, size_push']
  have n2 : (((s.heap.push (seqObj "list" #[] 0)).update s.heap.objs.size (Obj.mapSeq (· ++ us.toArray))).push (seqObj "list" us.toArray 0)).get? (s.heap.objs.size + 1) = some (seqObj "list" us.toArray 0) := by
    rw [← n1]
    exact Heap.get?_push_size _ rfl
  show wpAny _ _ _ _ _ { s with heap := ((s.heap.push (seqObj "list" #[] 0)).update s.heap.objs.size (Obj.mapSeq (· ++ us.toArray))).push (seqObj "list" us.toArray 0) }
  rw [n1]
  refine wpAny_bind (wpAny_holding (wpAny_call_entry slot_list_sort ⟨_, n2, rfl⟩ entry_list_sort (SrtO.list_sort_ord SrtO.swo_int n2 hz (fun h2 => SrtO.ints_sortable hi h2) fun out hs hb => ⟨_, rfl, ?_⟩) (args_list_sort _)))
  exact wpAny_pure ⟨_, rfl, q out hs hb⟩
end
section
variable {X : Cx} {c : Cn} {W : WX} {tg e a b : Expr} {es : List Expr} {pos : Pos}
def rSortedTp (K : PySem.W.Frag) : List V → Hp → VK → Prop := fun vs H Q => ∃ (a : Addr) (ns : List Int), vs = [V.ref a] ∧ SqT K H a (ns.map V.int) ∧
  ∀ (ms : List Int) (p : Addr), ms.Perm ns → ms.Pairwise (· ≤ ·) → H p = none → Q (.ref p) (upd H p (.lst (ms.map V.int)))
theorem cr_sortedTp : CallR X (.builtin "sorted") (rSortedTp X.K) := by
  intro pins s σ H vs us Q I r h
  obtain ⟨a, ns, rfl, hs, q⟩ := h
  obtain ⟨its, rv, hl, hz⟩ := I.tuple hs
  rw [Vals.ref1 r]
  have hi := rv.ints
  refine tup_sorted (show s.heap.IsTuple a its.toArray from hl) (by rw [← rv.length]; exact hz) hi fun out h1 h2 => ?_
  obtain ⟨k1, k2, k3⟩ := SrtO.ints_out hi h1 h2
  obtain ⟨ep, he'⟩ := PyProof.Rows.sortedAll_at s.heap its out.toArray
  have hlen : ((out.map SrtO.iv).map V.int).length ≤ sizeLine := by
    rw [List.length_map, k2.length_eq]
    rw [List.length_map] at hz
    exact hz
  exact ⟨.ref _, upd H (s.heap.objs.size + 1) (.lst ((out.map SrtO.iv).map V.int)), I.laid (t' := s.toks) (fun _ _ => PyProof.Rows.sortedAll_old) (Nat.le_succ _) ⟨hlen, out, ep, vals_of_ints k1, he'⟩, rfl, q _ _ k2 k3 (I.hok.fresh (Nat.le_succ _))⟩
@[simp] def fSortedA : List D → Option DR
  | [.lst ds] => (intsOf ds).bind fun ns => some (.f (.l ((sortI ns).map D.int)))
  | [.tup ds] => (intsOf ds).bind fun ns => some (.f (.l ((sortI ns).map D.int)))
  | _ => none
theorem ok_sortedA [g : Gd X c] : OkC X c (.builtin "sorted") fSortedA := ⟨_, cr_sortedI.or cr_sortedTp, fun B σ H st fs vs ds d Q R va e k => by
  have hK : c.n.K = X.K := by rw [g.n]
  unfold fSortedA at e
  split at e
  · rename_i ds
    obtain ⟨v, rfl, p, ws, rfl, h2, h3⟩ := paired1 va
    cases q : intsOf ds with
    | none => rw [q] at e; cases e
    | some ns =>
      rw [q] at e
      have e' : some (DR.f (.l ((sortI ns).map D.int))) = some d := e
      cases e'
      rw [intsOf_ok q] at h3
      rw [h3.ints] at h2
      refine .inl ⟨p, ns, rfl, .inl h2, fun ms l hp hs hl => ?_⟩
      cases sortI_unique hp hs
      exact k B _ l (.refl B) (R.newF (f := .l _) hl ⟨_, upd_same, IsDs.of_ints⟩)
  · rename_i ds
    obtain ⟨v, rfl, p, ws, rfl, h2, h3⟩ := paired1 va
    cases q : intsOf ds with
    | none => rw [q] at e; cases e
    | some ns =>
      rw [q] at e
      have e' : some (DR.f (.l ((sortI ns).map D.int))) = some d := e
      cases e'
      rw [intsOf_ok q] at h3
      rw [h3.ints, hK] at h2
      refine .inr ⟨p, ns, rfl, sqT_mono R.lv.up h2, fun ms l hp hs hl => ?_⟩
      cases sortI_unique hp hs
      exact k B _ l (.refl B) (R.newF (f := .l _) hl ⟨_, upd_same, IsDs.of_ints⟩)
  · cases e⟩
end
end Y
namespace Y
open PySem PySem.Spec PyProof.Rows L2
/-! ### xs[::-1] of a list or a tuple -/
theorem rev_pick (xs : Array Value) : ((List.range xs.size).filterMap fun (m : Nat) => xs[(((xs.size : Int) - 1) + (m : Int) * -1).toNat]?) = xs.toList.reverse := by
  have e : ∀ n, n ≤ xs.size → ((List.range n).filterMap fun (m : Nat) => xs[(((xs.size : Int) - 1) + (m : Int) * -1).toNat]?) = xs.toList.reverse.take n := by
    intro n
    induction n with
    | zero => intro _; simp
    | succ n ih =>
      intro h
      rw [List.range_succ, List.filterMap_append, ih (by omega)]
      have e1 : (((xs.size : Int) - 1) + (n : Int) * -1).toNat = xs.size - 1 - n := by omega
      have e2 : xs[xs.size - 1 - n]? = some xs[xs.size - 1 - n] := Array.getElem?_eq_getElem (by omega)
      have e3 : xs.toList.reverse[n]? = some xs[xs.size - 1 - n] := by
        rw [List.getElem?_reverse (by rw [Array.length_toList]; omega), Array.length_toList, Array.getElem?_toList, e2]
      rw [List.take_add_one, e3]
      congr 1
      rw [List.filterMap_cons]
      simp only [e1, e2, List.filterMap_nil]
      rfl
  rw [e xs.size (Nat.le_refl _), List.take_of_length_le (by rw [List.length_reverse, Array.length_toList]; omega)]
section
variable {prog : Program} {w : World} {A : Around} {E : Value → Shared → Prop} {s : Shared}
theorem rev_applied {sl : Addr} {t : Tok} {n : Nat} {Q : Int × Int × Nat → Shared → Prop} (hs : s.heap.IsSliceOf sl .none .none (.int (-1) t)) (h : Q ((n : Int) - 1, -1, n) s) : wpAny (model prog w) A (Builtin.Slice.sliceApplied (.ref sl) (pure (n : Int))) Q E s := by
  obtain ⟨os, hos, hcs, hds⟩ := id hs
  unfold Builtin.Slice.sliceApplied Builtin.Slice.sliceFields
  refine wpAny_bind (wpAny_bind (wpAny_field hos hds (x := .none) rfl (wpAny_bind (wpAny_field hos hds (x := .none) rfl (wpAny_bind (wpAny_field hos hds (x := .int (-1) t) rfl (wpAny_pure ?_)))))))
  refine wpAny_bind (slicePart_int ?_)
  show wpAny _ _ (if ((-1 : Int) == 0) = true then _ else _) _ _ s
  rw [if_neg (by decide)]
  refine wpAny_bind (slicePart_none (wpAny_bind (slicePart_none (wpAny_bind (wpAny_pure ?_)))))
  have e1 : Builtin.Slice.sliceAdjust none none (-1) (n : Int) = ((n : Int) - 1, -1) := by
    unfold Builtin.Slice.sliceAdjust
    simp
  have e2 : Builtin.Slice.slicePlaces ((n : Int) - 1) (-1) (-1) = n := by
    unfold Builtin.Slice.slicePlaces
    simp
    omega
  show wpAny _ _ (match Builtin.Slice.sliceAdjust none none (-1) (n : Int) with | (lo, hi) => pure (lo, (-1 : Int), Builtin.Slice.slicePlaces lo hi (-1))) _ _ s
  rw [e1]
  show wpAny _ _ (pure ((n : Int) - 1, (-1 : Int), Builtin.Slice.slicePlaces ((n : Int) - 1) (-1) (-1))) _ _ s
  rw [e2]
  exact wpAny_pure h
theorem tup_rev {t sl : Addr} {items : Array Value} {tk : Tok} {Q : Value → Shared → Prop} (ht : IsTup s.heap t items) (hs : s.heap.IsSliceOf sl .none .none (.int (-1) tk))
    (h : Q (.ref s.heap.objs.size) { s with heap := s.heap.push { cls := .type "tuple", data := .seq items.toList.reverse.toArray } }) (hsz : items.size ≤ sizeLine) : wpAny (model prog w) A (getItem (.ref t) (.ref sl)) Q E s := by
  have hok : sizeOk (.seq items.toList.reverse.toArray) := by
    show items.toList.reverse.toArray.size ≤ sizeLine
    rw [List.size_toArray, List.length_reverse, Array.length_toList]
    exact hsz
  obtain ⟨os, hos, hcs, hds⟩ := id hs
  have hTs : s.TypeIs (.ref sl) "slice" := ⟨os, hos, hcs⟩
  unfold getItem
  try with_reducible refine wpAny_holding ?_
  first | refine wpAny_bind (wpAny_pure ?_) | skip
  refine wpAny_bind (wpAny_sequenceKey ht.typeIs (by decide) ?_)
  refine wpAny_bind (wpAny_callSpecial?_slot (name := Str.ofString "__getitem__") ht.typeIs PyProof.Rows.slot_tuple_getitem (wpAny_call_entry PyProof.Rows.slot_tuple_getitem ht.typeIs entry_tuple_getitem ?_ (args_tuple_getitem _ _)))
  show wpAny _ _ (Builtin.Tuple.tupleItemsOf (.ref t) >>= _) _ _ s
  refine wpAny_bind (tupleItemsOf_ ht ?_)
  refine wpAny_bind (wpAny_typeOf hTs ?_)
  rw [if_pos (by decide)]
  refine wpAny_bind (rev_applied hs ?_)
  have hno : ¬ ((((items.size : Int) - 1) == 0 && (-1 : Int) == 1 && items.size == items.size) = true) := by simp
  show wpAny _ _ (if (((items.size : Int) - 1) == 0 && (-1 : Int) == 1 && items.size == items.size) = true then _ else _) _ _ s
  rw [if_neg hno, rev_pick]
  first
    | exact wpAny_bind (m := Builtin.Tuple.tupleExact _) (wpAny_newObj_type (wpAny_pure ⟨_, rfl, wpAny_pure h⟩) hok)
    | exact wpAny_bind (m := Builtin.Tuple.tupleExact _) (wpAny_newObj_type (wpAny_bind (wpAny_pure (wpAny_pure ⟨_, rfl, wpAny_pure h⟩))) hok)
    | exact wpAny_bind (wpAny_bind (m := Builtin.Tuple.tupleExact _) (wpAny_newObj_type (wpAny_pure (wpAny_pure ⟨_, rfl, wpAny_pure h⟩)) hok))
    | exact wpAny_bind (wpAny_bind (m := Builtin.Tuple.tupleExact _) (wpAny_newObj_type (wpAny_pure ⟨_, rfl, wpAny_pure h⟩) hok))
end
section
variable {X : Cx} {c : Cn} {W : WX} {tg e a b : Expr} {es : List Expr} {pos : Pos}
def tRevA (K : PySem.W.Frag) (te : TE) : TE := fun σ H Q => te σ H fun x H1 => (∃ a xs, x = .ref a ∧ SqL K H1 a xs ∧ ∀ p, H1 p = none → Q (.ref p) (upd H1 p (.lst xs.reverse))) ∨ (∃ a xs, x = .ref a ∧ SqT K H1 a xs ∧ ∀ p, H1 p = none → Q (.ref p) (upd H1 p (.tup xs.reverse)))
theorem pe_revA {e : Expr} {te : TE} {k : Nat} {p1 p2 p3 pos : Pos} (he : PE X e te) : PE X (.Subscript e (.Slice none none (some (.UnaryOp .USub (.Constant (.int 1) k p1) p2)) p3) pos) (tRevA X.K te) := by
  refine ⟨fun pins s σ H Q I h => ?_⟩
  refine Subscript_ (thn (he.run pins s σ H _ I h) fun v s1 ⟨x, H1, I1, r1, q1⟩ => ?_)
  have hst : L2.PO X (some (.UnaryOp .USub (.Constant (.int 1) k p1) p2)) (tPart (tUn (rU fun i => .int (-i)) (tC (.int 1)))) := po_some (pe_un un_neg pe_int)
  refine wpAny_Slice (thn (po_none.run pins s1 σ H1 (fun o H2 => o = none ∧ H2 = H1) I1 ⟨rfl, rfl⟩) fun vl s2 ⟨l, H2, I2, pl, el, e2⟩ => ?_)
  subst el e2
  refine thn (po_none.run pins s2 σ H2 (fun o H3 => o = none ∧ H3 = H2) I2 ⟨rfl, rfl⟩) fun vu s3 ⟨u, H3, I3, pu, eu, e3⟩ => ?_
  subst eu e3
  refine thn (hst.run pins s3 σ H3 (fun o H4 => o = some (-1) ∧ H4 = H3) I3 ⟨1, rfl, -1, rfl, rfl, rfl⟩) fun vs s4 ⟨o, H4, I4, ps, eo, e4⟩ => ?_
  subst eo e4
  cases pl
  cases pu
  cases ps with
  | int i tk =>
    have I5 : Inv X pins σ H4 { s4 with heap := s4.heap.push { cls := .type "slice", data := .fields #[.none, .none, .int (-1) tk] } } := I4.kept (t' := s4.toks) fun b ob q => Heap.get?_push_of_some _ q
    rcases q1 with ⟨a, xs, ex, hx, q⟩ | ⟨a, xs, ex, hx, q⟩
    · subst ex
      cases r1
      obtain ⟨its, r, ht, hz⟩ := I5.list hx
      have hlen := r.length
      show wpAny (model X.prog X.w) X.A (subscriptTail e (.Slice none none (some (.UnaryOp .USub (.Constant (.int 1) k p1) p2)) p3) (.ref a) (.ref s4.heap.objs.size)) (EP X pins σ Q) X.xe { s4 with heap := s4.heap.push { cls := .type "slice", data := .fields #[.none, .none, .int (-1) tk] } }
      refine tail_any (ops := [.ref a, .ref s4.heap.objs.size]) ht.isList.typeIs (PySem.slot_list_getitem.lookup) ?_ (by with_unfolding_all rfl)
      refine wpAny_getItem_list_slice ht.isList (Heap.IsSliceOf.new _ .none .none (.int (-1) tk)) .none .none (.int (-1) tk) (by decide) ?_ (by rw [List.size_toArray]; omega)
      rw [PySem.W.krv_pick]
      exact ⟨.ref _, _, I5.laid (t' := s4.toks) (o := .lst xs.reverse) (fun b ob q => Heap.get?_push_of_some _ q) (Nat.le_refl _) ⟨by rw [List.length_reverse]; exact hz, _, 0, r.reverse, Heap.get?_push_size _ rfl⟩, rfl, q _ (I5.hok.fresh (Nat.le_refl _))⟩
    · subst ex
      cases r1
      obtain ⟨its, r, ht, hz⟩ := I5.tuple hx
      have hlen := r.length
      show wpAny (model X.prog X.w) X.A (subscriptTail e (.Slice none none (some (.UnaryOp .USub (.Constant (.int 1) k p1) p2)) p3) (.ref a) (.ref s4.heap.objs.size)) (EP X pins σ Q) X.xe { s4 with heap := s4.heap.push { cls := .type "slice", data := .fields #[.none, .none, .int (-1) tk] } }
      refine tail_any (ops := [.ref a, .ref s4.heap.objs.size]) ht.typeIs (PyProof.Rows.slot_tuple_getitem.lookup) ?_ (by with_unfolding_all rfl)
      refine tup_rev ht (Heap.IsSliceOf.new _ .none .none (.int (-1) tk)) ?_ (by rw [List.size_toArray]; omega)
      exact ⟨.ref _, _, I5.laid (t' := s4.toks) (o := .tup xs.reverse) (fun b ob q => Heap.get?_push_of_some _ q) (Nat.le_refl _) ⟨by rw [List.length_reverse]; exact hz, _, r.reverse, ⟨_, Heap.get?_push_size _ rfl, rfl, 0, rfl⟩⟩, rfl, q _ (I5.hok.fresh (Nat.le_refl _))⟩
@[simp ↓] def mRevA (m : Mo E1) (st : MS) : Rs EX := (m st).then fun x s => match val x s with
  | some (.lst ds) => .ok (.f (.l ds.reverse)) s
  | some (.scr ns) => .ok (.f (.l (ns.map D.int).reverse)) s
  | some (.tup ds) => .ok (.e (.d (.tup ds.reverse))) s
  | _ => .bad
theorem ge_revA [gd : Gd X c] {m : Mo E1} {k : Nat} {p1 p2 p3 : Pos} (h : EE X c W e m) : GE X c W (.Subscript e (.Slice none none (some (.UnaryOp .USub (.Constant (.int 1) k p1) p2)) p3) pos) (mRevA m) :=
  ⟨peImp (pe_revA h.pe) fun σ H Q ⟨B, st, fs, r, p⟩ => ⟨B, st, fs, r, (Post.bind p).up (.refl B) fun x s k2 B1 H1 v l1 r1 i1 => by
    have hK : c.n.K = X.K := by rw [gd.n]
    split at k2
    · rename_i ds ex
      obtain ⟨a, vs, rfl, h2, h3⟩ := val_ok r1 i1 ex
      refine .inl ⟨a, vs, rfl, .inl h2, fun p hp => ?_⟩
      exact k2 B1 _ p l1 (r1.newF hp ⟨vs.reverse, upd_same, IsDs.reverse h3⟩)
    · rename_i ns ex
      obtain ⟨a, rfl, h2⟩ := val_ok r1 i1 ex
      rw [hK] at h2
      refine .inl ⟨a, _, rfl, sqL_mono r1.lv.up h2, fun p hp => ?_⟩
      exact k2 B1 _ p l1 (r1.newF hp ⟨_, upd_same, IsDs.reverse IsDs.of_ints⟩)
    · rename_i ds ex
      obtain ⟨a, vs, rfl, h2, h3⟩ := val_ok r1 i1 ex
      rw [hK] at h2
      refine .inr ⟨a, vs, rfl, sqT_mono r1.lv.up h2, fun p hp => ?_⟩
      obtain ⟨le, r3⟩ := r1.newD (o := .tup vs.reverse) hp
      exact k2 _ _ (.ref p) (l1.trans le) r3 ⟨p, vs.reverse, rfl, .inl (.inl upd_same), (IsDs.reverse h3).mono le _ _⟩
    · exact k2.elim⟩⟩
end
end Y
namespace Y
open PySem PySem.Spec PyProof.Rows L2
/-! ### len(set(t)), t a tuple or a list of ints -/
def distI : List Int → List Int
  | [] => []
  | x :: r => if x ∈ r then distI r else x :: distI r
theorem distI_mem {k : Int} : ∀ {l : List Int}, k ∈ distI l ↔ k ∈ l
  | [] => Iff.rfl
  | x :: r => by
    unfold distI
    split
    · rename_i h
      rw [distI_mem, List.mem_cons]
      exact ⟨.inr, fun z => z.elim (fun e => e ▸ h) id⟩
    · rw [List.mem_cons, List.mem_cons, distI_mem]
theorem distI_nodup : ∀ l : List Int, (distI l).Nodup
  | [] => .nil
  | x :: r => by
    unfold distI
    split
    · exact distI_nodup r
    · rename_i h
      exact List.nodup_cons.mpr ⟨fun z => h (distI_mem.mp z), distI_nodup r⟩
theorem distI_self : ∀ {l : List Int}, l.Nodup → distI l = l
  | [], _ => rfl
  | x :: r, h => by
    have h' := List.nodup_cons.mp h
    unfold distI
    rw [if_neg h'.1, distI_self h'.2]
theorem distI_le : ∀ l : List Int, (distI l).length ≤ l.length
  | [] => Nat.le_refl _
  | x :: r => by
    have ih := distI_le r
    unfold distI
    split
    · rw [List.length_cons]
      omega
    · rw [List.length_cons, List.length_cons]
      omega
theorem nodup_len {l m : List Int} (h1 : l.Nodup) (h2 : m.Nodup) (h : ∀ k, k ∈ l ↔ k ∈ m) : l.length = m.length := ((List.perm_ext_iff_of_nodup h1 h2).mpr h).length_eq
theorem met_nodup (val : Nat → Int) : ∀ i, (firstMet val i).Nodup
  | 0 => by rw [firstMet_zero]; exact List.nodup_nil
  | i + 1 => by
    have ih := met_nodup val i
    rw [firstMet_succ]
    unfold step_dedup
    split
    · exact ih
    · rename_i h
      rw [List.nodup_append]
      refine ⟨ih, by simp, fun a ha b hb e => h ?_⟩
      rw [List.mem_singleton] at hb
      subst hb e
      exact List.any_eq_true.mpr ⟨_, ha, by simp⟩
theorem met_len (ns : List Int) : (firstMet (fun i => ns.getD i 0) ns.length).length = (distI ns).length := by
  refine nodup_len (met_nodup _ _) (distI_nodup ns) fun k => ?_
  have h := firstMet_any (fun i => ns.getD i 0) ns.length k
  have e : (List.range ns.length).map (fun i => ns.getD i 0) = ns := by
    refine List.ext_getElem (by simp) fun i h1 h2 => ?_
    simp
    rw [List.getElem?_eq_getElem h2]
    rfl
  rw [e] at h
  rw [distI_mem]
  have q : ∀ l : List Int, l.any (· == k) = true ↔ k ∈ l := fun l => by simp
  rw [← q, ← q, h]
def tLenSetA (K : PySem.W.Frag) (ta : TE) : TE := fun σ H Q => ta σ H fun x H1 => ∃ (l : Addr) (ns : List Int), x = .ref l ∧ ((SqT K H1 l (ns.map V.int)) ∨ SqL K H1 l (ns.map V.int)) ∧ ns.length ≤ 4000 ∧ Q (.int ((distI ns).length : Nat)) H1
theorem pe_lenSetA {X : Cx} {a : Expr} {ta : TE} {p p2 q pos : Pos} (hg : Gl X "len") (hm : X.mg "len" = none) (hg2 : Gl X "set") (hm2 : X.mg "set" = none) (ha : PE X a ta) (hc : X.calm = true)
    (na : starEach [a] X.env = (false, eval a X.env) :: starEach [] X.env := by rfl) : PE X (.Call (.Name "len" p) [.Call (.Name "set" p2) [a] [] q] [] pos) (tLenSetA X.K ta) := by
  refine ⟨fun pins s σ H Q I h => ?_⟩
  refine Call_ (ld_blt I hg hm boot_len ?_)
  refine PyProof.Rows.callWith_builtin1 (PyProof.Rows.args_cons ?_ rfl) rfl rfl
  refine Call_ (ld_blt I hg2 hm2 boot_set ?_)
  refine PyProof.Rows.callWith_type1 (PyProof.Rows.args_cons (thn (ha.run pins s σ H _ I h) fun v s1 ⟨x, H1, I1, r1, q1⟩ => PyProof.Rows.args_nil ?_) na) na rfl
  obtain ⟨l, ns, rfl, hq, hl, q1⟩ := q1
  cases r1
  rcases hq with hq | hq
  · obtain ⟨its, r, pl, hz⟩ := I1.tuple hq
    refine call_set_tupI ns (I1.ok.hd hc) (show s1.heap.IsTuple l its.toArray from pl) (by simpa using RZ.intsAre_vals r) (by unfold scanBound; omega) fun h' tk n hS _ hk => ?_
    refine PyProof.Rows.args_nil ?_
    obtain ⟨o, es, ep, t, ho, hex, hd, _, hnk, hmem, _, hf, hn, _, _⟩ := hS
    have I2 : Inv X pins σ H1 { s1 with heap := h', toks := tk } := I1.kept fun b o e => hk b o e
    have hc2 : es.size = (distI ns).length := by
      have e := nodup_len hnk (distI_nodup ns) fun k => by
        rw [← hmem k, decide_eq_true_eq, distI_mem]
      rw [List.length_map, Array.length_toList] at e
      exact e
    have hle := distI_le ns
    exact call_len_set ho hex hd hf (by rw [hc2]; omega) ⟨.int ((distI ns).length : Nat), H1, I2.tok _, ⟨_, by rw [hc2]⟩, q1⟩
  · obtain ⟨its, r, pl, hz⟩ := I1.list hq
    have hlen : its.toArray.size = ns.length := by rw [List.size_toArray, ← r.length, List.length_map]
    refine call_set_list (I1.ok.hd hc) pl.isList (by simpa using RZ.intsAre_vals r) (by rw [hlen]; unfold scanBound; omega) fun h' tk hS hk => ?_
    refine PyProof.Rows.args_nil ?_
    rw [hlen] at hS
    have hle := distI_le ns
    have hml := met_len ns
    obtain ⟨o, es, ep, t, ho, hex, hd, _, _, _, hf, hn⟩ := hS
    have I2 : Inv X pins σ H1 { s1 with heap := h', toks := tk } := I1.kept fun b o e => hk b o (Heap.lt_size e) e
    exact call_len_set ho hex hd hf (by rw [hn, hml]; omega) ⟨.int ((distI ns).length : Nat), H1, I2.tok _, ⟨_, by rw [hn, hml]⟩, q1⟩
section
variable {X : Cx} {c : Cn} {W : WX} {tg e a b : Expr} {es : List Expr} {pos : Pos}
@[simp] def fLenSet : D → Option D
  | .tup ds => (intsOf ds).bind fun ns => if decide (ns.length ≤ 4000) = true then some (.int ((distI ns).length : Nat)) else none
  | .lst ds => (intsOf ds).bind fun ns => if decide (ns.length ≤ 4000) = true then some (.int ((distI ns).length : Nat)) else none
  | _ => none
@[simp ↓] def mLenSet (m : Mo E1) (st : MS) : Rs E1 := (m st).then fun x s => opt (((val x s).bind fLenSet).map E1.d) s
theorem ee_lenSet [gd : Gd X c] {m : Mo E1} {p p2 q : Pos} (hg : Gl X "len") (hm : X.mg "len" = none) (hg2 : Gl X "set") (hm2 : X.mg "set" = none) (h : EE X c W a m) (na : starEach [a] X.env = (false, eval a X.env) :: starEach [] X.env := by rfl) : EE X c W (.Call (.Name "len" p) [.Call (.Name "set" p2) [a] [] q] [] pos) (mLenSet m) :=
  ⟨peImp (pe_lenSetA hg hm hg2 hm2 h.pe gd.calm na) fun σ H Q ⟨B, st, fs, r, p⟩ => ⟨B, st, fs, r, (Post.bind p).up (.refl B) fun x s k B1 H1 v l1 r1 i1 => by
    have hK : c.n.K = X.K := by rw [gd.n]
    cases ex : val x s with
    | none => rw [ex] at k; exact k.elim
    | some d =>
      rw [ex] at k
      have vd := val_ok r1 i1 ex
      cases d with
      | tup ds =>
        obtain ⟨a, vs, rfl, h2, h3⟩ := vd
        simp only [Option.bind_some, fLenSet] at k
        cases qi : intsOf ds with
        | none => rw [qi] at k; exact k.elim
        | some ns =>
          rw [qi] at k
          simp only [Option.bind_some] at k
          split at k
          · rename_i hl
            rw [intsOf_ok qi] at h3
            rw [h3.ints, hK] at h2
            exact ⟨a, ns, rfl, .inl (sqT_mono r1.lv.up h2), of_decide_eq_true hl, k B1 H1 _ l1 r1 rfl⟩
          · exact k.elim
      | lst ds =>
        obtain ⟨a, vs, rfl, h2, h3⟩ := vd
        simp only [Option.bind_some, fLenSet] at k
        cases qi : intsOf ds with
        | none => rw [qi] at k; exact k.elim
        | some ns =>
          rw [qi] at k
          simp only [Option.bind_some] at k
          split at k
          · rename_i hl
            rw [intsOf_ok qi] at h3
            rw [h3.ints] at h2
            exact ⟨a, ns, rfl, .inr (.inl h2), of_decide_eq_true hl, k B1 H1 _ l1 r1 rfl⟩
          · exact k.elim
      | _ => exact k.elim⟩⟩
end
end Y
namespace Y
open PySem PySem.Spec PyProof.Rows L2
/-! ### displays of dicts, the keys constants -/
section
variable {X : Cx} {c : Cn} {W : WX} {tg e a b : Expr} {es : List Expr} {pos : Pos}
def rP (c : Cn) (W : WX) (ks : List Key) (m : Mo (List D)) (σ : Sg) (H : Hp) (Q : List (V × V) → Hp → Prop) : Prop :=
  ∃ B st fs, Rel c B σ H st fs ∧ Post c W σ B (m st) fun ds s => ∀ B' H' vs, B.le B' → Rel c B' σ H' s fs → IsDs c.n B' ds vs → ds.length = ks.length → Q ((ks.map kV).zip vs) H'
structure PDs (X : Cx) (c : Cn) (W : WX) (pos : Pos) (keys : List (Option Expr)) (values : List Expr) (ks : List Key) (m : Mo (List D)) : Prop where
  ex : ∃ trs, PPs X pos keys values trs ∧ ∀ σ H Q, rP c W ks m σ H Q → tPairs trs σ H Q
theorem pds_nil : PDs X c W pos [] [] [] mNil := ⟨[], pps_nil, fun σ H Q ⟨B, st, fs, r, p⟩ => p B H [] (.refl B) r rfl rfl⟩
structure KeyE (X : Cx) (e : Expr) (k : Key) : Prop where
  pe : PE X e (tC (kV k))
theorem key_str {x : Str} {j : Nat} : KeyE X (.Constant (.str x) j pos) (.inr x) := ⟨pe_str⟩
theorem key_int {i : Int} {j : Nat} : KeyE X (.Constant (.int i) j pos) (.inl i) := ⟨pe_int⟩
theorem pds_cons {ke : Expr} {k : Key} {keys : List (Option Expr)} {values : List Expr} {ks : List Key} {m : Mo D} {ms : Mo (List D)} (hk : KeyE X ke k) (hv : DE X c W e m) (hr : PDs X c W pos keys values ks ms) :
    PDs X c W pos (some ke :: keys) (e :: values) (k :: ks) (mCons m ms) := by
  obtain ⟨trs, h1, h2⟩ := hr.ex
  refine ⟨(tC (kV k), rD c W m) :: trs, pps_cons hk.pe hv.pe h1, fun σ H Q ⟨B, st, fs, r, p⟩ => ?_⟩
  show rD c W m σ H fun y H2 => tPairs trs σ H2 fun ps H3 => Q ((kV k, y) :: ps) H3
  refine ⟨B, st, fs, r, (Post.bind p).up (.refl B) fun d s k1 B1 H1 v l1 r1 i1 => ?_⟩
  refine h2 σ H1 _ ⟨B1, s, fs, r1, (Post.bind k1).up l1 fun ds s2 k2 B2 H2 vs l2 r2 i2 hl => ?_⟩
  exact k2 B2 H2 (v :: vs) (l1.trans l2) r2 ⟨v, vs, rfl, IsD.mono l2 d v i1, i2⟩ (by rw [List.length_cons, List.length_cons, hl])
theorem mergeK_new : ∀ (ks : List Key) (vs : List V) (acc : List (Key × V)), (∀ k ∈ ks, ∀ kv ∈ acc, kv.1 ≠ k) → ks.Nodup → ks.length = vs.length → mergeK acc (ks.zip vs) = acc ++ ks.zip vs
  | [], vs, acc, _, _, _ => by
    show acc = acc ++ []
    rw [List.append_nil]
  | k :: ks, [], acc, _, _, h => by cases h
  | k :: ks, v :: vs, acc, h1, h2, h3 => by
    have h2' := List.nodup_cons.mp h2
    have e : putK acc k v = acc ++ [(k, v)] := by
      unfold putK
      rw [if_neg]
      intro z
      obtain ⟨kv, hm, e⟩ := List.any_eq_true.mp z
      exact h1 k List.mem_cons_self kv hm (of_decide_eq_true e)
    show mergeK (putK acc k v) (ks.zip vs) = _
    rw [e, mergeK_new ks vs _ (fun q hq kv hm => ?_) h2'.2 (by simpa using h3), List.append_assoc]
    · rfl
    · rcases List.mem_append.mp hm with hm | hm
      · exact h1 q (List.mem_cons_of_mem _ hq) kv hm
      · rw [List.mem_singleton.mp hm]
        intro e
        have e' : k = q := e
        subst e'
        exact h2'.1 hq
@[simp ↓] def mDisp (ks : List Key) (ms : Mo (List D)) (st : MS) : Rs EX := (ms st).then fun ds s => .ok (.f (.k ks ds)) s
theorem ge_disp [gd : Gd X c] {keys : List (Option Expr)} {values : List Expr} {ks : List Key} {ms : Mo (List D)} (h : PDs X c W pos keys values ks ms) (hnd : ks.Nodup) (h15 : keys.length ≤ 15) (hl : keys.length = ks.length) (hall : keys.all (·.isSome) = true := by rfl) (hlv : keys.length = values.length := by rfl) (h0 : keys ≠ [] := by simp)
    (hms : ∀ st ds s, ms st = .ok ds s → ds.length = ks.length) : GE X c W (.Dict keys values pos) (mDisp ks ms) := by
  obtain ⟨trs, h1, h2⟩ := h.ex
  refine ⟨peImp (pe_disp h1 hall hlv h0 h15) fun σ H Q ⟨B, st, fs, r, p⟩ q hq => ?_⟩
  have r0 := r.newF (f := .k [] []) (o := .dK []) hq ⟨[], upd_same, rfl, rfl⟩
  refine h2 σ _ _ ⟨B, st, (q, .k [] []) :: fs, r0, ?_⟩
  unfold mDisp at p
  cases qm : ms st with
  | bad => rw [qm] at p; exact p
  | ex x as s =>
    rw [qm] at p
    exact fun B' H' C d l r' => p B' H' C d l r'
  | ok ds s =>
    rw [qm] at p
    have hL := hms st ds s qm
    intro B' H' vs l r' i hle
    obtain ⟨_, us, hus, hul, hud⟩ := r'.fr _ List.mem_cons_self
    cases (show us = [] from hud)
    have hvl := i.length
    have hkl : ks.length = vs.length := by rw [hvl, hle]
    refine ⟨hus, ks.zip vs, ?_, ?_, ?_⟩
    · rw [List.zip_map_left]
      rfl
    · rw [List.length_zip]
      omega
    · have e : mergeK [] (ks.zip vs) = ks.zip vs := by rw [mergeK_new ks vs [] (fun _ _ _ h => nomatch h) hnd hkl]; rfl
      rw [e]
      exact p B' _ q l (r'.writeF (f' := .k ks ds) ⟨vs, upd_same, hle.symm, i⟩)
end
end Y
namespace Y
open PySem PySem.Spec PyProof.Rows L2
section
variable {X : Cx} {c : Cn} {W : WX} {tg e a b : Expr} {es : List Expr} {pos : Pos}
/-! ### a tuple's display, known to have no dict; its index -/
def tTupF (t : TA) : TE := fun σ H Q => t σ H fun xs H1 => xs.length ≤ sizeLine ∧ ∀ p o, H1 p = none → o.dict = none → Q (.ref p) (upd H1 p (.frz o (.tup xs)))
theorem pe_tupF {t : TA} {x1 : Nat} (h : PA X es t) : PE X (.Tuple es x1 pos) (tTupF t) := by
  refine ⟨fun pins s σ H Q I hq => ?_⟩
  refine wpAny_Tuple_spliced (thn (h.run pos pins s σ H _ I hq) fun us s1 ⟨xs, H1, I1, r, z, q⟩ => ⟨by rw [← r.length]; exact z, ?_⟩)
  have hf : H1 s1.heap.objs.size = none := I1.hok.fresh (Nat.le_refl _)
  refine ⟨.ref s1.heap.objs.size, upd H1 s1.heap.objs.size (.frz { cls := .type "tuple", data := .seq us.toArray } (.tup xs)), I1.laid (t' := s1.toks) (fun b u e => Heap.get?_push_of_some _ e) (Nat.le_refl _) ?_, rfl, q _ _ hf rfl⟩
  exact ⟨Heap.get?_push_size _ rfl, z, us, r, ⟨_, Heap.get?_push_size _ rfl, rfl, _, rfl⟩⟩
@[simp ↓] def mTupF (ms : Mo (List D)) (st : MS) : Rs E1 := (ms st).then fun ds s => if decide (ds.length ≤ lim) = true then .ok (.d (.tupF ds)) s else .bad
theorem ee_tupF {ms : Mo (List D)} {x1 : Nat} (h : AE X c W es ms) : EE X c W (.Tuple es x1 pos) (mTupF ms) := ⟨peImp (pe_tupF h.pa) fun σ H Q ⟨B, st, fs, r, p⟩ => ⟨B, st, fs, r, (Post.bind p).up (.refl B) fun ds s k B1 H1 vs l1 r1 i1 => by
    split at k
    · rename_i q
      refine ⟨by rw [i1.length]; exact lim_ok q, fun a o ha ho => ?_⟩
      obtain ⟨le, r3⟩ := r1.newD (o := .frz o (.tup vs)) ha
      exact k _ _ (.ref a) (l1.trans le) r3 ⟨a, vs, o, rfl, upd_same, ho, i1.mono le _ _⟩
    · exact k.elim⟩⟩
def tIdxF (to : TE) (ta : TA) : TE := fun σ H Q => to σ H fun x H1 => ∃ (p : Addr) (o : Obj) (xs : List V), x = .ref p ∧ H1 p = some (.frz o (.tup xs)) ∧ o.dict = none ∧ ta σ H1 fun ys H2 => ∃ (ns : List Int) (k : Int), H2 p = some (.frz o (.tup (ns.map V.int))) ∧ ys = [.int k] ∧ k ∈ ns ∧ Q (.int (ns.idxOf k : Nat)) H2
theorem pe_idxF {o e : Expr} {to : TE} {t : TA} {apos cpos : Pos} (ho : PE X o to) (ha : PA X [e] t) (hbase : attributeBase o "index" X.env (eval o X.env) = eval o X.env)
    (hfew : ((backTo cpos (starEach [e] X.env)).all (fun x => !x.1) && (backToKw cpos (keywordEach [] X.env)).all (fun x => x.1.isSome)
      && decide ([e].length + ([] : List Keyword).length + (if ([] : List Keyword).isEmpty then 0 else 1) < 30)) = true)
    (hline : (apos.endLine == cpos.line) = true) (hs : starEach [e] X.env = (false, eval e X.env) :: starEach [] X.env) (hplain : (backTo cpos (starEach [] X.env)).any (·.1) = false) :
    PE X (.Call (.Attribute o "index" apos) [e] [] cpos) (tIdxF to t) := by
  refine ⟨fun pins s σ H Q I h => ?_⟩
  refine wpAny_Call_method_late hbase hfew hline rfl (thn (ho.run pins s σ H _ I h) fun v s1 ⟨x, H1, I1, r1, q1⟩ => ?_)
  obtain ⟨p, ob, xs, rfl, hp, hd, q2⟩ := q1
  cases r1
  have hob := I1.hok p _ hp
  obtain ⟨ho1, hz, us, rv, hT⟩ := hob
  have hcls : ob.cls = .type "tuple" := by
    obtain ⟨o2, e2, c2, _⟩ := hT
    rw [ho1] at e2
    cases e2
    exact c2
  refine ⟨"tuple", "tuple.index", PySem.F.plainAttrs_tuple, PySem.F.slot_tuple_index, PySem.F.type_tuple_index, ⟨ob, ho1, hcls⟩, fun a e => by cases e; exact ⟨ob, ho1, hd⟩, ?_⟩
  have hA := ha.run cpos pins s1 σ H1 _ I1 q2
  rw [hs] at hA ⊢
  refine Calls.callWith_builtin (by show (false || (backTo cpos (starEach [] X.env)).any (·.1)) = false; rw [hplain] <;> rfl) (Calls.evalArgs_plain ?_)
  refine thn hA fun ws s2 ⟨vs, H2, I2, r2, q3⟩ => ?_
  obtain ⟨ns, k, hp2, rfl, hk, q⟩ := q3
  obtain ⟨u, rfl, tk, rfl⟩ := vals1 r2
  obtain ⟨_, hz2, us2, rv2, hT2⟩ := I2.hok p _ hp2
  exact PySem.SeqAt.tuple_index_ints (show s2.heap.IsTuple p us2.toArray from hT2) (RZ.intsAre_vals rv2) hk ⟨.int (ns.idxOf k : Nat), H2, I2.tok _, ⟨_, rfl⟩, q⟩
@[simp ↓] def mIdxF (mx : Mo E1) (me : Mo E1) (st : MS) : Rs E1 := (mx st).then fun x s1 => match x with
  | .d (.tupF ds) => (me s1).then fun y s2 => match val y s2, intsOf ds with
    | some (.int k), some ns => if decide (k ∈ ns) = true then .ok (.d (.int (ns.idxOf k : Nat))) s2 else .bad
    | _, _ => .bad
  | _ => .bad
theorem ee_idxF [g : Gd X c] {mx me : Mo E1} {apos cpos : Pos} (hx : EE X c W a mx) (he : EE X c W b me) (hbase : attributeBase a "index" X.env (eval a X.env) = eval a X.env := by rfl)
    (hfew : ((backTo cpos (starEach [b] X.env)).all (fun x => !x.1) && (backToKw cpos (keywordEach [] X.env)).all (fun x => x.1.isSome)
      && decide ([b].length + ([] : List Keyword).length + (if ([] : List Keyword).isEmpty then 0 else 1) < 30)) = true := by rfl)
    (hline : (apos.endLine == cpos.line) = true := by rfl) (hs : starEach [b] X.env = (false, eval b X.env) :: starEach [] X.env := by rfl) (hplain : (backTo cpos (starEach [] X.env)).any (·.1) = false := by rfl) :
    EE X c W (.Call (.Attribute a "index" apos) [b] [] cpos) (mIdxF mx me) :=
  ⟨peImp (pe_idxF hx.pe (pa_cons he.pe pa_nil hs) hbase hfew hline hs hplain) fun σ H Q ⟨B, st, fs, r, p⟩ => ⟨B, st, fs, r, (Post.bind p).up (.refl B) fun x s1 k B1 H1 v1 l1 r1 i1 => by
    split at k
    · rename_i ds
      obtain ⟨p, vs, o, rfl, h2, h3, h4⟩ := i1
      refine ⟨p, o, vs, rfl, r1.lv.sub _ _ h2, h3, ?_⟩
      refine ⟨B1, s1, fs, r1, (Post.bind k).up l1 fun y s2 k2 B2 H2 v2 l2 r2 i2 => ?_⟩
      split at k2
      · rename_i j ns ey en
        split at k2
        · rename_i hm
          have hy : v2 = .int j := val_ok r2 i2 ey
          rw [intsOf_ok en] at h4
          refine ⟨ns, j, ?_, by rw [hy], of_decide_eq_true hm, k2 B2 H2 _ (l1.trans l2) r2 rfl⟩
          rw [← h4.ints]
          exact r2.lv.sub _ _ (l2.h0.keep h2 id)
        · exact k2.elim
      · exact k2.elim
    · exact k.elim⟩⟩
end
end Y
namespace Y
open PySem PySem.Spec PyProof.Rows L2
section
variable {X : Cx} {c : Cn} {W : WX} {tg e a b : Expr} {es : List Expr} {pos : Pos}
/-! ### dicts walked, asked, listed, counted -/
@[simp] def keyD : Key → D
  | .inl i => .int i
  | .inr x => .str x
@[simp] def keysD (k : List Key) : D := .tup (k.map keyD)
theorem isD_key {n : Kn} {B : Bs} (k : Key) : IsD n B (keyD k) (kV k) := by cases k <;> rfl
theorem isDs_keys {n : Kn} {B : Bs} : ∀ (ks : List Key), IsDs n B (ks.map keyD) (ks.map kV)
  | [] => rfl
  | k :: ks => ⟨_, _, rfl, isD_key k, isDs_keys ks⟩
/-- what is handed back may be locked -/
theorem pe_lockAft {td : TE} (he : PE X e td) : PE X e (fun σ H Q => td σ H fun x H1 => Q x H1 ∨ ∃ d u, H1 d = some u ∧ Mut (some u) ∧ ∀ od, Q x (upd H1 d (.frz od u))) := by
  refine ⟨fun pins s σ H Q I h => ?_⟩
  refine thn (he.run pins s σ H _ I h) fun u s1 ⟨x, H1, I1, rx, q⟩ => ?_
  rcases q with q | ⟨d, u', hd, mu, q⟩
  · exact ⟨x, H1, I1, rx, q⟩
  · obtain ⟨od, I2⟩ := I1.lock hd mu
    exact ⟨x, _, I2, rx, q od⟩
theorem walk_keysD {B : Bs} {d : Addr} {o : Obj} {ks : List Key} {vs : List V} (h : B.H0 d = some (.frz o (.dK (ks.zip vs)))) (hl : ks.length = vs.length) : WalkD c B (ks.map keyD) (Itk d o (ks.zip vs)) := fun i B2 σ2 H2 s2 fs2 l r => by
  have h2 : H2 d = some (.frz o (.dK (ks.zip vs))) := r.lv.sub _ _ (l.h0.keep h id)
  refine ⟨fun x hx => ?_, fun hj => ⟨h2, by rw [List.length_zip]; simp at hj; omega⟩⟩
  rw [List.getElem?_map] at hx
  obtain ⟨k, hk, ek⟩ := Option.map_eq_some_iff.mp hx
  have hi : i < ks.length := (List.getElem?_eq_some_iff.mp hk).1
  refine ⟨⟨h2, by rw [List.length_zip]; omega⟩, fun y H3 ⟨e, k', v', e2, e3⟩ => ⟨B2, .refl _, by rw [e]; exact r, ?_⟩⟩
  have e4 := List.getElem?_zip_eq_some.mp e2
  rw [hk] at e4
  have ekk : k' = k := (Option.some.inj e4.1).symm
  rw [e3, ← ek, ekk]
  exact isD_key k
theorem walk_keysTD {B : Bs} {d : Addr} {o : Obj} {ks : List (List Key)} {vs : List V} (h : B.H0 d = some (.frz o (.dT (ks.zip vs)))) (hl : ks.length = vs.length) : WalkD c B (ks.map keysD) (Itkt d o (ks.zip vs)) := fun i B2 σ2 H2 s2 fs2 l r => by
  have h2 : H2 d = some (.frz o (.dT (ks.zip vs))) := r.lv.sub _ _ (l.h0.keep h id)
  refine ⟨fun x hx => ?_, fun hj => ⟨h2, by rw [List.length_zip]; simp at hj; omega⟩⟩
  rw [List.getElem?_map] at hx
  obtain ⟨k, hk, ek⟩ := Option.map_eq_some_iff.mp hx
  have hi : i < ks.length := (List.getElem?_eq_some_iff.mp hk).1
  refine ⟨⟨h2, by rw [List.length_zip]; omega⟩, fun y H3 ⟨e, k', v', q, e2, e3, e5⟩ => ?_⟩
  have e4 := List.getElem?_zip_eq_some.mp e2
  rw [hk] at e4
  have ekk : k' = k := (Option.some.inj e4.1).symm
  subst ekk
  subst e
  rw [← ek]
  obtain ⟨le, r3⟩ := r.learn e5
  refine ⟨_, le, r3, q, k'.map kV, e3, .inl (.inl ?_), isDs_keys k'⟩
  exact upd_same
@[simp ↓] def itemsK : D → MS → Rs (List D)
  | .dct ks _, s => .ok (ks.map keyD) s
  | .dctT ks _, s => .ok (ks.map keysD) s
  | _, _ => .bad
@[simp ↓] def mItK (m : Mo D) (st : MS) : Rs (List D) := (m st).then itemsK
theorem ie_dict {m : Mo D} (h : DE X c W e m) : IE X c W tg e (mItK m) :=
  ⟨piImp (pi_keys (pe_lockAft h.pe)) fun σ H R ⟨B, st, fs, r, p⟩ => ⟨B, st, fs, r, (Post.bind p).up (.refl B) fun d s k B1 H1 v l1 r1 i1 => by
    cases d with
    | dct ks ds =>
      obtain ⟨a, vs, rfl, h2, h3, h4⟩ := i1
      have hl : ks.length = vs.length := by rw [h4.length]; exact h3
      rcases h2 with h2 | ⟨o, h2⟩
      · refine .inr ⟨a, _, r1.lv.sub _ _ h2, trivial, fun od => ⟨a, od, rfl, .inl ⟨_, upd_same, ?_⟩⟩⟩
        obtain ⟨le, r2⟩ := r1.lock (od := od) h2 trivial trivial
        exact k _ _ _ (l1.trans le) r2 (walk_keysD upd_same hl)
      · exact .inl ⟨a, o, rfl, .inl ⟨_, r1.lv.sub _ _ h2, k B1 H1 _ l1 r1 (walk_keysD h2 hl)⟩⟩
    | dctT ks ds =>
      obtain ⟨a, vs, rfl, h2, h3, h4⟩ := i1
      have hl : ks.length = vs.length := by rw [h4.length]; exact h3
      rcases h2 with h2 | ⟨o, h2⟩
      · refine .inr ⟨a, _, r1.lv.sub _ _ h2, trivial, fun od => ⟨a, od, rfl, .inr ⟨_, upd_same, ?_⟩⟩⟩
        obtain ⟨le, r2⟩ := r1.lock (od := od) h2 trivial trivial
        exact k _ _ _ (l1.trans le) r2 (walk_keysTD upd_same hl)
      · exact .inl ⟨a, o, rfl, .inr ⟨_, r1.lv.sub _ _ h2, k B1 H1 _ l1 r1 (walk_keysTD h2 hl)⟩⟩
    | _ => exact k.elim⟩⟩
/-! ### k in d -/
def memK {κ : Type} [DecidableEq κ] (k : κ) (ks : List κ) : Bool := decide (k ∈ ks)
@[simp ↓] def mDIn (neg : Bool) (ma mb : Mo E1) (st : MS) : Rs E1 := (ma st).then fun y s1 => (mb s1).then fun x s2 => match val x s2, (val y s2).bind keyOf with
  | some (.dct ks _), some k => .ok (.d (.bl (neg != memK k ks))) s2
  | _, _ => .bad
theorem lookD_mem {κ : Type} [DecidableEq κ] {α : Type} (k : κ) : ∀ (ks : List κ) (vs : List α), ks.length = vs.length → (lookD k ks vs).isSome = memK k ks
  | [], _, _ => by simp [lookD, memK]
  | q :: ks, [], h => by cases h
  | q :: ks, v :: vs, h => by
    unfold lookD
    by_cases e : q = k
    · rw [if_pos e]
      simp [e, memK]
    · rw [if_neg e, lookD_mem k ks vs (by simpa using h)]
      have e' : ¬ k = q := fun z => e z.symm
      simp [e', memK]
theorem din_go {neg : Bool} {ma mb : Mo E1} {σ : Sg} {H : Hp} {Q : VK} (h : rE c W (mDIn neg ma mb) σ H Q) : rE c W ma σ H fun y H1 => rE c W mb σ H1 fun x H2 => ∃ a o, x = .ref a ∧ DGet H2 a y o ∧ Q (.bl (neg != o.isSome)) H2 := by
  obtain ⟨B, st, fs, r, p⟩ := h
  refine ⟨B, st, fs, r, (Post.bind p).up (.refl B) fun y s1 k B1 H1 v1 l1 r1 i1 => ⟨B1, s1, fs, r1, (Post.bind k).up l1 fun x s2 k2 B2 H2 v2 l2 r2 i2 => ?_⟩⟩
  split at k2
  · rename_i ks ds q ex ey
    obtain ⟨dy, ey1, ey2⟩ := Option.bind_eq_some_iff.mp ey
    have hk := keyOf_v (val_ok r2 (i1.mono l2) ey1) ey2
    obtain ⟨a, vs, rfl, h2, h3, h4⟩ := val_ok r2 i2 ex
    have hl : ks.length = vs.length := by rw [h4.length]; exact h3
    refine ⟨a, lookD q ks vs, rfl, by rw [hk]; exact .inl ⟨ks.zip vs, q, h2, rfl, (valV_zip q ks vs).symm⟩, ?_⟩
    rw [lookD_mem q ks vs hl]
    exact k2 B2 H2 _ (l1.trans l2) r2 rfl
  · exact k2.elim
theorem ee_din (hu : X.A.units + 64 < cLine) {ma mb : Mo E1} (ha : EE X c W a ma) (hb : EE X c W b mb) (hm : behindInMarks .In b = false := by rfl) : EE X c W (.Compare a [.In] [b] pos) (mDIn false ma mb) :=
  ⟨peImp (pe_cmp (pc_din (by omega) ha.pe hb.pe) hm) fun σ H Q h => by simpa only [tDIn, Bool.false_bne] using din_go h⟩
theorem ee_dnotin (hu : X.A.units + 64 < cLine) {ma mb : Mo E1} (ha : EE X c W a ma) (hb : EE X c W b mb) (hm : behindInMarks .NotIn b = false := by rfl) : EE X c W (.Compare a [.NotIn] [b] pos) (mDIn true ma mb) :=
  ⟨peImp (pe_cmp (pc_dnotin (by omega) ha.pe hb.pe) hm) fun σ H Q h => by simpa only [tDNotIn, Bool.true_bne] using din_go h⟩
theorem te_din (hu : X.A.units + 64 < cLine) {ma mb : Mo E1} (ha : EE X c W a ma) (hb : EE X c W b mb) (hm : behindInMarks .In b = false := by rfl) : TEs X c W (.Compare a [.In] [b] pos) (mTest (mDIn false ma mb)) :=
  ⟨ptImp (pt_cmp (pc_din (by omega) ha.pe hb.pe) hm) fun σ H Q h => by simpa only [tB, tDIn, Bool.false_bne] using din_go (test_go (t := fun _ _ _ => True) h)⟩
theorem te_dnotin (hu : X.A.units + 64 < cLine) {ma mb : Mo E1} (ha : EE X c W a ma) (hb : EE X c W b mb) (hm : behindInMarks .NotIn b = false := by rfl) : TEs X c W (.Compare a [.NotIn] [b] pos) (mTest (mDIn true ma mb)) :=
  ⟨ptImp (pt_cmp (pc_dnotin (by omega) ha.pe hb.pe) hm) fun σ H Q h => by simpa only [tB, tDNotIn, Bool.true_bne] using din_go (test_go (t := fun _ _ _ => True) h)⟩
/-! ### d.get(k, x) -/
@[simp ↓] def mDGet2 (ma mb : Mo E1) (mx : Mo D) (st : MS) : Rs E1 := (ma st).then fun x s1 => match val x s1 with
  | some (.dct _ _) => (mb s1).then fun y s2 => (mx s2).then fun z s3 => match val x s3, (val y s3).bind keyOf with
    | some (.dct ks ds), some k => .ok (.d ((lookD k ks ds).getD z)) s3
    | _, _ => .bad
  | _ => .bad
theorem ee_dget2 (hu : X.A.units + 64 < cLine) {apos cpos : Pos} {f : Expr} {ma mb : Mo E1} {mx : Mo D} (ha : EE X c W a ma) (hb : EE X c W b mb) (hf : DE X c W f mx) (m : M2 X a "get" apos b f cpos := by exact ⟨rfl, rfl, rfl, rfl⟩) :
    EE X c W (.Call (.Attribute a "get" apos) [b, f] [] cpos) (mDGet2 ma mb mx) :=
  ⟨peImp (pe_dget2 (by omega) ha.pe hb.pe hf.pe m) fun σ H Q ⟨B, st, fs, r, p⟩ => ⟨B, st, fs, r, (Post.bind p).up (.refl B) fun x s1 k B1 H1 v1 l1 r1 i1 => by
    split at k
    · rename_i ks0 ds0 ex0
      obtain ⟨a, vs, rfl, h2, h3, h4⟩ := val_ok r1 i1 ex0
      refine ⟨a, rfl, .inl ⟨_, h2⟩, B1, s1, fs, r1, (Post.bind k).up l1 fun y s2 k2 B2 H2 v2 l2 r2 i2 => ⟨B2, s2, fs, r2, (Post.bind k2).up (l1.trans l2) fun z s3 k3 B3 H3 v3 l3 r3 i3 => ?_⟩⟩
      split at k3
      · rename_i ks ds q ex ey
        obtain ⟨dy, ey1, ey2⟩ := Option.bind_eq_some_iff.mp ey
        have hk := keyOf_v (val_ok r3 (i2.mono l3) ey1) ey2
        obtain ⟨a', vs', ea, g2, g3, g4⟩ := val_ok r3 ((i1.mono l2).mono l3) ex
        cases ea
        refine ⟨lookD q ks vs', by rw [hk]; exact .inl ⟨ks.zip vs', q, g2, rfl, (valV_zip q ks vs').symm⟩, k3 B3 H3 _ ((l1.trans l2).trans l3) r3 ?_⟩
        show IsD c.n B3 ((lookD q ks ds).getD z) ((lookD q ks vs').getD v3)
        cases hl : lookD q ks ds with
        | some d =>
          obtain ⟨w, hw, iw⟩ := isDs_look g4 hl
          rw [hw]
          exact iw
        | none =>
          have := isDs_none (k := q) (ks := ks) g4
          rw [hl] at this
          cases hw : lookD q ks vs' with
          | some w => rw [hw] at this; cases this
          | none => exact i3
      · exact k3.elim
    · exact k.elim⟩⟩
/-! ### list(d), sorted(d), len(d) -/
@[simp] def fListK : List D → Option DR
  | [.dct ks _] => some (.f (.l (ks.map keyD)))
  | _ => none
theorem ok_listK [g : Gd X c] : OkC X c (.type "list") fListK := ⟨_, call_listD g.calm, fun B σ H st fs vs ds d Q R va e k => by
  unfold fListK at e
  split at e
  · rename_i ks xs
    obtain ⟨v, rfl, a, ws, rfl, h2, h3, h4⟩ := paired1 va
    cases e
    have hl : ks.length = ws.length := by rw [h4.length]; exact h3
    refine ⟨a, _, rfl, h2, fun q hq => ?_⟩
    have e2 : (ks.zip ws).map (fun kv => kV kv.1) = ks.map kV := by
      rw [show (fun kv : Key × V => kV kv.1) = kV ∘ Prod.fst from rfl, ← List.map_map, List.map_fst_zip (by omega)]
    rw [e2]
    exact k B _ q (.refl B) (R.newF (f := .l (ks.map keyD)) hq ⟨_, upd_same, isDs_keys ks⟩)
  · cases e⟩
@[simp] def intKeys : List Key → Option (List Int)
  | [] => some []
  | .inl i :: ks => (intKeys ks).map (i :: ·)
  | _ => none
theorem intKeys_ok : ∀ {ks : List Key} {ns : List Int}, intKeys ks = some ns → ks = ns.map Sum.inl
  | [], ns, h => by cases h; rfl
  | .inl i :: ks, ns, h => by
    obtain ⟨ms, h1, rfl⟩ := Option.map_eq_some_iff.mp (show (intKeys ks).map (i :: ·) = some ns from h)
    rw [intKeys_ok h1]
    rfl
  | .inr x :: ks, ns, h => by cases h
@[simp] def fSortedK : List D → Option DR
  | [.dct ks _] => match intKeys ks with
    | some ns => if decide (ns.length < 64) = true then some (.f (.l ((sortI ns).map D.int))) else none
    | none => none
  | _ => none
theorem ok_sortedK [g : Gd X c] : OkC X c (.builtin "sorted") fSortedK := ⟨_, call_sortedDI g.calm, fun B σ H st fs vs ds d Q R va e k => by
  unfold fSortedK at e
  split at e
  · rename_i ks xs
    split at e
    · rename_i ns q
      split at e
      · rename_i hlt
        obtain ⟨v, rfl, a, ws, rfl, h2, h3, h4⟩ := paired1 va
        cases e
        have hl : ks.length = ws.length := by rw [h4.length]; exact h3
        refine ⟨a, _, ns, rfl, h2, ?_, of_decide_eq_true hlt, fun ms l hp hs hl => ?_⟩
        · rw [List.map_fst_zip (by omega)]
          exact intKeys_ok q
        · cases sortI_unique hp hs
          exact k B _ l (.refl B) (R.newF (f := .l _) hl ⟨_, upd_same, IsDs.of_ints⟩)
      · cases e
    · cases e
  · cases e⟩
theorem call_lenRD : CallR X (.builtin "len") (fun xs H Q => ∃ a, xs = [V.ref a] ∧ ((∃ kvs, Rd H a (.dK kvs) ∧ Q (.int kvs.length) H) ∨ ∃ kvs, Rd H a (.dT kvs) ∧ Q (.int kvs.length) H)) := by
  intro pins s σ H xs us Q I r h
  obtain ⟨a, rfl, h⟩ := h
  obtain ⟨u, rfl, ru⟩ := vals1 r
  cases ru
  rcases h with ⟨kvs, ha, q⟩ | ⟨kvs, ha, q⟩
  · exact d_len I ha fun t s' I' => ⟨.int kvs.length, H, I', ⟨t, rfl⟩, q⟩
  · obtain ⟨z, hd, ys, rel, dd⟩ := dt_rd I.hok ha
    have hl : kvs.length = ys.length := Paired.length rel
    refine call_len_dictH hd dd (by rw [← hl]; rw [sizeLine_eq] at z; omega) ?_
    rw [← hl]
    exact ⟨.int ((kvs.length : Nat) : Int), H, I.tok _, ⟨_, rfl⟩, q⟩
@[simp] def fLenK : List D → Option DR
  | [.dct ks _] => dInt ks.length
  | [.dctT ks _] => dInt ks.length
  | _ => none
theorem ok_lenK [g : Gd X c] : OkC X c (.builtin "len") fLenK := ⟨_, call_lenRD, fun B σ H st fs vs ds d Q R va e k => by
  unfold fLenK at e
  split at e
  · obtain ⟨v, rfl, a, ws, rfl, h2, h3, h4⟩ := paired1 va
    cases e
    refine ⟨a, rfl, .inl ⟨_, h2, ?_⟩⟩
    rw [List.length_zip, h4.length, ← h3, Nat.min_self]
    exact k B H _ (.refl B) R rfl
  · obtain ⟨v, rfl, a, ws, rfl, h2, h3, h4⟩ := paired1 va
    cases e
    refine ⟨a, rfl, .inr ⟨_, h2, ?_⟩⟩
    rw [List.length_zip, h4.length, ← h3, Nat.min_self]
    exact k B H _ (.refl B) R rfl
  · cases e⟩
/-! ### tuples as keys -/
def rK (c : Cn) (W : WX) (m : Mo (List Key)) : TE := fun σ H Q => ∃ B st fs, Rel c B σ H st fs ∧ Post c W σ B (m st) fun k st => ∀ B' H' v, B.le B' → Rel c B' σ H' st fs → (∃ b, v = .ref b ∧ H' b = some (.tup (k.map kV))) → Q v H'
/-- an expression that gives a new tuple, a key -/
structure KEy (X : Cx) (c : Cn) (W : WX) (e : Expr) (m : Mo (List Key)) : Prop where
  pe : PE X e (rK c W m)
@[simp] def keysOf : List D → Option (List Key)
  | [] => some []
  | d :: ds => match keyOf d, keysOf ds with
    | some k, some ks => some (k :: ks)
    | _, _ => none
theorem keysOf_ok {n : Kn} {B : Bs} : ∀ {ds : List D} {vs : List V} {ks : List Key}, IsDs n B ds vs → keysOf ds = some ks → vs = ks.map kV
  | [], vs, ks, h, e => by cases e; exact h
  | d :: ds, vs, ks, h, e => by
    obtain ⟨v, r, rfl, h2, h3⟩ := h
    unfold keysOf at e
    split at e
    · rename_i k ks' e1 e2
      cases e
      have hv : v = kV k := by
        cases d with
        | int i => cases e1; exact h2
        | str i => cases e1; exact h2
        | _ => cases e1
      rw [keysOf_ok h3 e2, hv]
      rfl
    · cases e
@[simp ↓] def kTup (ms : Mo (List D)) (st : MS) : Rs (List Key) := (ms st).then fun ds s => if decide (ds.length ≤ lim) = true then opt (keysOf ds) s else .bad
theorem ke_tup {ms : Mo (List D)} {x1 : Nat} (h : AE X c W es ms) : KEy X c W (.Tuple es x1 pos) (kTup ms) :=
  ⟨peImp (pe_tup h.pa) fun σ H Q ⟨B, st, fs, r, p⟩ => ⟨B, st, fs, r, (Post.bind p).up (.refl B) fun ds s k B1 H1 vs l1 r1 i1 => by
    split at k
    · rename_i q
      refine ⟨by rw [i1.length]; exact lim_ok q, fun a ha => ?_⟩
      cases hk : keysOf ds with
      | none => rw [hk] at k; exact k.elim
      | some ks =>
        rw [hk] at k
        have e := keysOf_ok i1 hk
        obtain ⟨le, r2⟩ := r1.newD (o := .tup vs) ha
        exact k _ _ _ (l1.trans le) r2 ⟨a, rfl, by rw [upd_same, e]⟩
    · exact k.elim⟩⟩
/-- tuple(xs), xs a list -/
@[simp ↓] def kTupOf (m : Mo E1) (st : MS) : Rs (List Key) := (m st).then fun x s => match val x s with
  | some (.lst ds) => opt (keysOf ds) s
  | _ => .bad
theorem ke_tupOf {p : Pos} {m : Mo E1} (hg : Gl X "tuple") (hm : X.mg "tuple" = none) (h : EE X c W e m) (he : starEach [e] X.env = (false, eval e X.env) :: starEach [] X.env := by rfl) (hpl : (backTo pos (starEach [] X.env)).any (·.1) = false := by rfl) :
    KEy X c W (.Call (.Name "tuple" p) [e] [] pos) (kTupOf m) :=
  ⟨peImp (pe_callTy call_tuple_of hg hm (by decide +kernel) (pa_cons h.pe pa_nil he) (by decide) (by decide) he hpl) fun σ H Q ⟨B, st, fs, r, p⟩ => ⟨B, st, fs, r, (Post.bind p).up (.refl B) fun x s k B1 H1 v l1 r1 i1 => by
    split at k
    · rename_i ds ex
      obtain ⟨a, vs, rfl, h2, h3⟩ := val_ok r1 i1 ex
      cases hk : keysOf ds with
      | none => rw [hk] at k; exact k.elim
      | some ks =>
        rw [hk] at k
        have e := keysOf_ok h3 hk
        refine ⟨a, vs, rfl, .inl ⟨.inl h2, fun l hl => ?_⟩⟩
        obtain ⟨le, r2⟩ := r1.newD (o := .tup vs) hl
        exact k _ _ _ (l1.trans le) r2 ⟨l, rfl, by rw [upd_same, e]⟩
    · exact k.elim⟩⟩
/-- d[k] = v, k a tuple -/
@[simp ↓] def mDPutT (me : Mo D) (mx : Mo E1) (mi : Mo (List Key)) (st : MS) : RSt := (me st).st fun d s1 => (mx s1).st fun x s2 => (mi s2).st fun k s3 => match thing x s3 with
  | some (.t ks ds) => if decide (ks.length < lim) = true then .nx (putT x (.t (putKs ks k) (putDs ks ds k d)) s3) else .bad
  | _ => .bad
theorem se_dputT [g : Gd X c] (hu : X.A.units + 64 < cLine) {v : Expr} {me : Mo D} {mx : Mo E1} {mi : Mo (List Key)} {p : Pos} (hv : DE X c W v me) (ha : EE X c W a mx) (hb : KEy X c W b mi)
    (hs : swapsWith v (some (.Subscript a b p)) pos.line X.env = pure false := by rfl) : SE X c W (.Assign [.Subscript a b p] v pos) (mDPutT me mx mi) :=
  ⟨psImp (ps_dput (by omega) ha.pe hb.pe hv.pe hs) fun D σ H ⟨B, st, r, p⟩ => ⟨B, st, [], r, (PostS.bind p).up (.refl B) fun d s1 k B1 H1 v1 l1 r1 i1 =>
    ⟨B1, s1, [], r1, (PostS.bind (σ := σ) k).up l1 fun x s2 k2 B2 H2 v2 l2 r2 i2 => ⟨B2, s2, [], r2, (PostS.bind (σ := σ) k2).up (l1.trans l2) fun q s3 k3 B3 H3 v3 l3 r3 ⟨kb, ek, hkb⟩ => by
      split at k3
      · rename_i ks ds ex
        split at k3
        · rename_i hl
          obtain ⟨a, rfl, ⟨vs, hvs, hlen, iv⟩, wr⟩ := thing_ok r3 (i2.mono l3) ex
          have hlz : (ks.zip vs).length < sizeLine := by
            have := lim_lt hl
            rw [List.length_zip]
            omega
          have hvl := iv.length
          have i1' := IsD.mono (l2.trans l3) d v1 i1
          refine ⟨a, _, rfl, .inr ⟨ks.zip vs, q, kb, hvs, ek, hkb, hlz, rfl⟩, ?_⟩
          rw [putK_zip q v1 (by omega)]
          exact k3 B3 σ _ ((l1.trans l2).trans l3) (wr _ (.t (putKs ks q) (putDs ks ds q d)) ⟨putDs ks vs q v1, upd_same, putKs_len ks q d hlen, isDs_put i1' iv hlen⟩)
        · exact k3.elim
      · exact k3.elim⟩⟩⟩⟩
/-- {}, its keys tuples -/
@[simp ↓] def mDNewT (st : MS) : Rs EX := .ok (.f (.t [] [])) st
theorem ge_dnewT : GE X c W (.Dict [] [] pos) mDNewT := ⟨peImp pe_dnewT fun σ H Q ⟨B, st, fs, r, p⟩ q hq => p B _ q (.refl B) (r.newF hq ⟨[], upd_same, rfl, rfl⟩)⟩
/-- {k: v}, k a tuple -/
def tDispT (tk tv : TE) : TE := fun σ H Q => ∀ p, H p = none → tk σ (upd H p (.dT [])) fun y H1 => tv σ H1 fun x H2 => H2 p = some (.dT []) ∧ ∃ b ks, y = .ref b ∧ H2 b = some (.tup (ks.map kV)) ∧ Q (.ref p) (upd H2 p (.dT [(ks, x)]))
theorem pe_dispT {tk tv : TE} (hu : X.A.units + 64 < cLine) (hk : PE X a tk) (hv : PE X b tv) : PE X (.Dict [some a] [b] pos) (tDispT tk tv) := by
  refine ⟨fun pins s σ H Q I q => ?_⟩
  have hn := I.hok.fresh (Nat.le_refl s.heap.objs.size)
  have I1 := I.laid (a := s.heap.objs.size) (o := .dT []) (h' := s.heap.push { cls := .type "dict", data := .dict #[] }) (t' := s.toks) (fun _ _ q => Heap.get?_push_of_some _ q) (Nat.le_refl _) (dt_empty s.heap I.big)
  refine wpAny_Dict_any rfl rfl (by simp) (by simp) (pairTrees_cons_walk (thn (hk.run pins _ σ _ _ I1 (q _ hn)) fun u s2 ⟨y, H1, I2, ry, q2⟩ => thn (hv.run pins s2 σ H1 _ I2 q2) fun r s3 ⟨x, H2, I3, rx, q3⟩ => pairTrees_nil_walk ?_))
  obtain ⟨e, kb, ks, rfl, eb, q4⟩ := q3
  cases (show u = Value.ref kb from ry)
  obtain ⟨z, hd, xs, rel, dd⟩ := dt_of I3.hok e
  have hx0 : xs = [] := by
    cases rel
    rfl
  subst hx0
  unfold storeAll
  rw [List.forIn_cons]
  refine wpAny_bind (wpAny_bind (wpAny_dictSet_heap (A := X.A) (hsz := by simp) (show X.A.units < cLine by omega) (key_of I3.hok eb) dd fun h' dd' hs => wpAny_pure ?_))
  show wpAny (model X.prog X.w) X.A (forIn ([] : List (Value × Value)) PUnit.unit _) _ _ _
  rw [List.forIn_nil]
  refine wpAny_pure ⟨.ref s.heap.objs.size, _, ?_, rfl, q4⟩
  obtain ⟨qo, es, ep, hq, h2, h3, h4, _, h5⟩ := dd'
  refine d_write I3 (by rw [e]; exact True.intro) hs ⟨qo, hq⟩ ⟨by show 1 ≤ sizeLine; rw [sizeLine_eq]; decide, hd, _, (rel.put ks eb rx).keeps fun c ys ec => ?_, qo, es, ep, hq, h2, h3, h4, h5⟩
  rw [upd_ne (ne_of ec e (fun z => nomatch z))]
  exact ec
@[simp ↓] def mDispT (mk : Mo (List Key)) (mv : Mo D) (st : MS) : Rs EX := (mk st).then fun k s1 => (mv s1).then fun d s2 => .ok (.f (.t [k] [d])) s2
end
end Y
namespace Y
open PySem PySem.Spec PyProof.Rows L2
instance tk0 {X : Cx} : Tk X noW := ⟨takes0⟩
section
variable {X : Cx} {c : Cn} {W : WX} {tg e a b : Expr} {es : List Expr} {pos : Pos} {vs : List Nat}
theorem ge_dispT (hu : X.A.units + 64 < cLine) {mk : Mo (List Key)} {mv : Mo D} (hk : KEy X c W a mk) (hv : DE X c W b mv) : GE X c W (.Dict [some a] [b] pos) (mDispT mk mv) :=
  ⟨peImp (pe_dispT hu hk.pe hv.pe) fun σ H Q ⟨B, st, fs, r, p⟩ q hq => by
    have r0 := r.newF (f := .t [] []) (o := .dT []) hq ⟨[], upd_same, rfl, rfl⟩
    refine ⟨B, st, (q, .t [] []) :: fs, r0, (Post.bind p).up (.refl B) fun k s1 k1 B1 H1 v1 l1 r1 ⟨kb, ev, hkb⟩ => ?_⟩
    obtain ⟨le, r1'⟩ := r1.learn hkb
    refine ⟨_, s1, (q, .t [] []) :: fs, r1', (Post.bind k1).up (l1.trans le) fun d s2 k2 B2 H2 v2 l2 r2 i2 => ?_⟩
    obtain ⟨_, us, hus, hul, hud⟩ := r2.fr _ List.mem_cons_self
    cases (show us = [] from hud)
    refine ⟨hus, kb, k, ev, r2.lv.sub _ _ (l2.h0.keep upd_same id), ?_⟩
    exact k2 B2 _ q ((l1.trans le).trans l2) (r2.writeF (f' := .t [k] [d]) ⟨[v2], upd_same, rfl, v2, [], rfl, i2, rfl⟩)⟩
/-! ### xs[i] as a target -/
@[simp] def gS (mx mi : Mo E1) (d : D) (st : MS) : Option MS := match mx st with
  | .ok x s1 => match mi s1 with
    | .ok i s2 => match thing x s2, val i s2 with
      | some (.l ds), some (.int k) => (ixN ds.length k).map fun j => putT x (.l (ds.set j d)) s2
      | _, _ => none
    | _ => none
  | _ => none
theorem tg_sub {mx mi : Mo E1} (hx : EE X c noW a mx) (hi : EE X c noW b mi)
    (ha : ∀ v, assign (.Subscript a b pos) X.env v = (do let ov ← holding [v] (eval a X.env); let iv ← holding [v, ov] (eval b X.env); standAt pos; holding [v, ov, iv] (setItem ov iv v); release [v, ov, iv] []) := by intros; rfl) : TGE X c vs (.Subscript a b pos) (gS mx mi) :=
  ⟨pgImp (pg_sub hx.pe hi.pe set_list ha) fun v σ H Q ⟨B, st, d, fs, r, ix, k⟩ => by
    unfold gS at k
    refine ⟨B, st, fs, r, ?_⟩
    cases q1 : mx st with
    | bad => simp only [q1] at k
    | ex x as s => simp only [q1] at k
    | ok x s1 =>
      simp only [q1] at k
      intro B1 H1 v1 l1 r1 i1
      refine ⟨B1, s1, fs, r1, ?_⟩
      cases q2 : mi s1 with
      | bad => simp only [q2] at k
      | ex x as s => simp only [q2] at k
      | ok i s2 =>
        simp only [q2] at k
        intro B2 H2 v2 l2 r2 i2
        cases q3 : thing x s2 with
        | none => simp only [q3] at k
        | some f =>
          cases f with
          | l ds =>
            cases q4 : val i s2 with
            | none => simp only [q3, q4] at k
            | some d2 =>
              cases d2 with
              | int j =>
                simp only [q3, q4] at k
                obtain ⟨a, rfl, ⟨ws, hws, iws⟩, wr⟩ := thing_ok r2 (i1.mono l2) q3
                have hj : v2 = .int j := val_ok r2 i2 q4
                cases q5 : ixN ds.length j with
                | none => rw [q5] at k; exact k.elim
                | some m =>
                  rw [q5] at k
                  refine ⟨a, ws, j, m, rfl, hj, hws, by rw [iws.length]; exact q5, ?_⟩
                  exact k B2 σ _ (l1.trans l2) (wr _ _ ⟨ws.set m v, upd_same, IsDs.set (IsD.mono (l1.trans l2) d v ix) m iws⟩) rfl
              | _ => simp only [q3, q4] at k
          | _ => simp only [q3] at k⟩
end
end Y
namespace Y
open PySem PySem.Spec PyProof.Rows L2
/-! ### enumerate of lists and tuples -/
section
open PySem.AutoSeq1 (wpAny_loadPart')
theorem meets_enumerate_new1 {v : Value} {o : Obj} {H : Heap → Prop} (B : Begins v o H) :
    Meets (Builtin.«enumerate.__new__» ⟨[.type "enumerate", v], []⟩) (fun _ R s => H s.heap ∧
      R (.ok (.ret (.ref (s.heap.push o).objs.size))) { s with heap := (s.heap.push o).push { cls := .type "enumerate", data := .fields #[.none, .bool false, .ref s.heap.objs.size, rawInt 0, .none, .none] } }) :=
  .of_wp fun prog w A R s h => by
    obtain ⟨hp, g, d, tk, os⟩ := s; obtain ⟨h1, h⟩ := h
    have hsub := sub_enumerate
    have q1 : ∀ {A' : Around} {E : Value → Shared → Prop} {Q : Value → Shared → Prop}, Q (.ref hp.objs.size) ⟨hp.push o, g, d, tk, os⟩ → wpAny (model prog w) A' (pyIter v) Q E ⟨hp, g, d, tk, os⟩ :=
      fun q => B.iter prog w _ _ ⟨hp, g, d, tk, os⟩ _ h1 q
    wp_walk using q1
    refine wpAny_stack_any fun st => wpAny_pure ?_
    split
    · rename_i c _ _ _ _ _
      cases (c == Value.type "enumerate")
      · wp_walk using q1
        exact ⟨_, rfl, h⟩
      · wp_walk using q1
        exact ⟨_, rfl, h⟩
    · wp_walk using q1
      exact ⟨_, rfl, h⟩
theorem enum_begins1 {prog : Program} {w : World} {A : Around} {E : Value → Shared → Prop} {s : Shared} {v : Value} {o : Obj} {H : Heap → Prop} {Q : Value → Shared → Prop} (B : Begins v o H) (h1 : H s.heap)
    (h : ∀ h', IsEnum h' (s.heap.objs.size + 1) s.heap.objs.size 0 .none → h'.get? s.heap.objs.size = some o → h'.objs.size = s.heap.objs.size + 2 →
      (∀ b o, s.heap.get? b = some o → h'.get? b = some o) → Q (.ref (s.heap.objs.size + 1)) { s with heap := h' }) :
    wpAny (model prog w) A (call (.type "enumerate") [v]) Q E s := by
  refine callType_new F.called_enumerate (by decide) (F.typeCall_enumerate_1 _) (F.newCall_enumerate_1 _) (fun obj => F.args_object_init_2 obj _) F.entry_enumerate_new
    (meets_enumerate_new1 B) ⟨h1, ?_⟩
  have hz : (s.heap.push o).objs.size = s.heap.objs.size + 1 := Heap.size_push ..
  show _ ∧ _
  rw [hz]
  have he : IsEnum ((s.heap.push o).push { cls := .type "enumerate", data := .fields #[.none, .bool false, .ref s.heap.objs.size, rawInt 0, .none, .none] }) (s.heap.objs.size + 1) s.heap.objs.size 0 .none := by
    have := Heap.get?_push_size (s.heap.push o) (o := { cls := .type "enumerate", data := .fields #[.none, .bool false, .ref s.heap.objs.size, rawInt 0, .none, .none] }) rfl
    rw [hz] at this; exact this
  refine ⟨⟨_, he, rfl⟩, h _ he (Heap.get?_push_of_some _ (Heap.get?_push_size _ B.free)) (by rw [Heap.size_push, hz]) fun b o x => Heap.get?_push_of_some _ (Heap.get?_push_of_some _ x)⟩
end
def IteK (K : PySem.W.Frag) (k : Bool) (a : Addr) : It :=
  ⟨fun i H => ∃ (xs : List V) (x : V), SqK K H k a xs ∧ xs[i]? = some x,
    fun i H v H' => ∃ T x, v = .ref T ∧ H T = none ∧ H' = upd H T (.tup [.int (i : Nat), x]) ∧ ∀ xs, SqK K H k a xs → xs[i]? = some x,
    fun i H => ∃ xs : List V, SqK K H k a xs ∧ i = xs.length⟩
theorem turn_enumK {P : Program} {w : World} {K : PySem.W.Frag} {elts : List Expr} {kk : Nat} {tpos : Pos} {k : Bool} {a e it : Addr} (hne : e ≠ it) (hea : e ≠ a) (hia : a ≠ it) :
    Turn P w K (.Tuple elts kk tpos) (IteK K k a) [e, it] e (fun i h => (∃ old, IsEnum h e it ((i : Nat) : Int) old) ∧ IsItK k h it a i) where
  mem := by simp
  obj := fun i h st b hb => by
    obtain ⟨⟨old, he⟩, h1⟩ := st
    have e' : b = e ∨ b = it := by simpa using hb
    rcases e' with q | q
    · rw [q]; exact ⟨_, he, fun v q => nomatch q⟩
    · rw [q]; exact isItK_obj h1
  keep := fun i h h' st kp => by
    obtain ⟨⟨old, he⟩, h1⟩ := st
    exact ⟨⟨old, kp e (by simp) _ he⟩, isItK_at h1 fun o q => kp it (by simp) o q⟩
  item := by
    intro X hP hw hK hc i pins s σ H E I hf st hg
    subst hP hw hK
    obtain ⟨⟨old, he⟩, h1⟩ := st
    obtain ⟨xs, x, q1, e1⟩ := hg
    obtain ⟨s1, r1, p1, l1⟩ := seqK I q1
    have hh : X.A.in1.handled = none := (show X.A.handled = none from I.ok.hd hc)
    have W := GoesN.enumFrom (prog := X.prog) (w := X.w) (A := X.A) (elts := elts) (x1 := kk) (pos := tpos) 0 (drawsK hh k it a hia s1.toArray) e hne (by simp [hne, hea]) (by simp)
    obtain ⟨v1, g1, w1⟩ := r1.get e1
    have hi : i < s1.toArray.size := by
      have c1 := (List.getElem?_eq_some_iff.mp g1).1
      simpa using c1
    have z0 : (0 : Int) + (i : Int) = (i : Int) := by omega
    refine W.goes i s (fun v s2 => ∃ x H', Inv X pins σ H' s2 ∧ RelV x v ∧ (IteK X.K k a).yld i H x H' ∧ ((∃ old, IsEnum s2.heap e it ((i + 1 : Nat) : Int) old) ∧ IsItK k s2.heap it a (i + 1)) ∧ ∀ b ∈ [e, it], H' b = none) E hi ⟨⟨old, by rw [z0]; exact he⟩, h1, p1⟩ fun v h' tk ⟨T, t, x', ev, hT, d1, ht⟩ st' old htk => ?_
    subst ev
    obtain ⟨⟨old', he'⟩, h1', _⟩ := st'
    have f1 : x' = v1 := by simpa [g1] using d1.symm
    subst f1
    rw [z0] at ht
    have new : ObjOk X.prog X.w (upd H T (.tup [.int (i : Nat), x])) h' T (.tup [.int (i : Nat), x]) := ⟨by show 2 ≤ sizeLine; decide, [.int i t, x'], .cons ⟨_, rfl⟩ (.cons w1 .nil), ht⟩
    have I1 : Inv X pins σ (upd H T (.tup [.int (i : Nat), x])) { s with heap := h', toks := tk } :=
      I.turnedNew (ch := [e, it]) (fun b o hb e => old b o hb e) hf hT new
    refine ⟨.ref T, _, I1, rfl, ⟨T, x, rfl, I.hok.fresh hT, rfl, fun l hl => by rw [sqK_inj I hl q1]; exact e1⟩, ⟨⟨old', ?_⟩, h1'⟩, fun b hb => ?_⟩
    · have z1 : (0 : Int) + ((i + 1 : Nat) : Int) = ((i + 1 : Nat) : Int) := by omega
      rw [z1] at he'
      exact he'
    · have hlt : b < s.heap.objs.size := by
        have e' : b = e ∨ b = it := by simpa using hb
        rcases e' with q | q
        · rw [q]; exact Heap.lt_size he
        · rw [q]; obtain ⟨_, e, _⟩ := isItK_obj h1; exact Heap.lt_size e
      rw [upd_ne (Nat.ne_of_lt (Nat.lt_of_lt_of_le hlt hT))]
      exact (hf b hb).1
  done := by
    intro X hP hw hK hc i pins s σ H E I hf st hg
    subst hP hw hK
    obtain ⟨⟨old, he⟩, h1⟩ := st
    obtain ⟨xs, q1, hi⟩ := hg
    obtain ⟨s1, r1, p1, l1⟩ := seqK I q1
    have hh : X.A.in1.handled = none := (show X.A.handled = none from I.ok.hd hc)
    have W := GoesN.enumFrom (prog := X.prog) (w := X.w) (A := X.A) (elts := elts) (x1 := kk) (pos := tpos) 0 (drawsK hh k it a hia s1.toArray) e hne (by simp [hne, hea]) (by simp)
    have hn : i = s1.toArray.size := by
      have c1 := r1.length
      simp only [List.size_toArray]
      omega
    subst hn
    have z0 : (0 : Int) + (s1.toArray.size : Int) = (s1.toArray.size : Int) := by omega
    exact W.stops s (fun s1 => Inv X pins σ H s1) E ⟨⟨old, by rw [z0]; exact he⟩, h1, p1⟩ fun h' tk old htk => I.turnedL (t' := tk) (ch := [e, it]) (fun b o hb e => old b o hb e) hf
  self := fun A i s Q E st h => let ⟨⟨_, he⟩, _⟩ := st; wpAny_pyIter_enum he h
section
variable {X : Cx} {c : Cn} {W : WX} {tg e a b : Expr} {es : List Expr} {pos : Pos}
theorem pi_enumK {ta : TA} {p tpos : Pos} {elts : List Expr} {kk : Nat} (hg : Gl X "enumerate") (hm : X.mg "enumerate" = none) (ha : PA X [e] ta) (hs : starEach [e] X.env = [(false, eval e X.env)] := by rfl) :
    PI X (.Tuple elts kk tpos) (.Call (.Name "enumerate" p) [e] [] pos) (fun σ H R => ta σ H fun vs H1 => ∃ k a xs, vs = [.ref a] ∧ SqK X.K H1 k a xs ∧ R (IteK X.K k a) H1) := by
  refine ⟨fun pins s σ H R I h => ?_⟩
  refine Call_ (ld_blt I hg hm boot_enumerate (PyProof.Rows.callWith_type1 (thn (ha.run pos pins s σ H _ I h) fun us s1 ⟨vs, H1, I1, r1, q1⟩ => ?_) hs rfl))
  obtain ⟨k, a, xs, ex, hq, q⟩ := q1
  subst ex
  cases r1 with
  | cons r rr =>
    cases rr
    cases r
    obtain ⟨its, rv, p', hz⟩ := seqK I1 hq
    have n1 : s1.heap.objs.size + 1 ≠ a := Nat.ne_of_gt (Nat.lt_succ_of_lt hz)
    have n2 : a ≠ s1.heap.objs.size := Nat.ne_of_lt hz
    refine enum_begins1 (begK k a its.toArray) p' fun h' he hit hsz hk => wpAny_pyIter_enum he ?_
    have I2 : Inv X pins σ H1 { s1 with heap := h' } := I1.kept (t' := s1.toks) hk
    refine ⟨s1.heap.objs.size + 1, [s1.heap.objs.size + 1, s1.heap.objs.size], _, _, H1, rfl, I2, turn_enumK (k := k) (a := a) (e := s1.heap.objs.size + 1) (it := s1.heap.objs.size) (Nat.succ_ne_self _) n1 n2, ⟨⟨.none, he⟩, ?_⟩, fun b hb => ?_, q⟩
    · cases k with
      | true => exact ⟨_, hit, rfl, rfl⟩
      | false => exact ⟨_, hit, rfl, rfl⟩
    · have e' : b = s1.heap.objs.size + 1 ∨ b = s1.heap.objs.size := by simpa using hb
      have hle : s1.heap.objs.size ≤ b := by
        rcases e' with z | z
        · rw [z]; exact Nat.le_add_right _ _
        · rw [z]; exact Nat.le_refl _
      exact I1.fpOk hle (I1.hok.fresh hle)
@[simp] def itemsEK : List D → MS → Rs (List D)
  | [.lst ds], s => .ok (enumD ds) s
  | [.tup ds], s => .ok (enumD ds) s
  | [.tupF ds], s => .ok (enumD ds) s
  | _, _ => .bad
@[simp ↓] def mEnumK (ms : Mo (List D)) (st : MS) : Rs (List D) := (ms st).then itemsEK
theorem walk_enumK [g : Gd X c] {B : Bs} {k : Bool} {a : Addr} {vs : List V} {ds : List D} (h : ∀ (B2 : Bs) (σ : Sg) (H : Hp) (st : MS) (fs : Fs), B.le B2 → Rel c B2 σ H st fs → SqK X.K H k a vs) (i : IsDs c.n B ds vs) : WalkD c B (enumD ds) (IteK X.K k a) := fun j B2 σ2 H2 s2 fs2 l r => by
  have h2 := h B2 σ2 H2 s2 fs2 l r
  refine ⟨fun d hd => ?_, fun hj => ⟨vs, h2, by rw [i.length]; rw [enumD_len] at hj; exact hj.symm⟩⟩
  obtain ⟨x, hx, rfl⟩ := enumD_get hd
  obtain ⟨v, hv, iv⟩ := i.get hx
  refine ⟨⟨vs, v, h2, hv⟩, fun y H3 ⟨T, w, e1, e2, e3, e4⟩ => ?_⟩
  have hw := e4 vs h2
  rw [hv] at hw
  cases hw
  subst e1
  subst e3
  obtain ⟨le, r3⟩ := r.newD (o := .tup [.int (j : Nat), v]) e2
  exact ⟨_, le, r3, T, [.int (j : Nat), v], rfl, .inl (.inl upd_same), _, _, rfl, rfl, _, _, rfl, IsD.mono (l.trans le) x v iv, rfl⟩
theorem ie_enumK [gd : Gd X c] {ms : Mo (List D)} {p tpos : Pos} {elts : List Expr} {kk : Nat} (hg : Gl X "enumerate") (hm : X.mg "enumerate" = none) (ha : AE X c W [e] ms) (hs : starEach [e] X.env = [(false, eval e X.env)] := by rfl) : IE X c W (.Tuple elts kk tpos) (.Call (.Name "enumerate" p) [e] [] pos) (mEnumK ms) :=
  ⟨piImp (pi_enumK hg hm ha.pa hs) fun σ H R ⟨B, st, fs, r, p⟩ => ⟨B, st, fs, r, (Post.bind p).up (.refl B) fun ds s k B1 H1 vs l1 r1 i1 => by
    have hK : c.n.K = X.K := by rw [gd.n]
    unfold itemsEK at k
    split at k
    · obtain ⟨v, w, rfl, h1, h2⟩ := i1
      cases (show w = [] from h2)
      obtain ⟨a, us, rfl, h3, h4⟩ := h1
      have hs : ∀ (B2 : Bs) (σ : Sg) (H : Hp) (st : MS) (fs : Fs), B1.le B2 → Rel c B2 σ H st fs → SqK X.K H false a us := fun B2 σ H st fs l r => .inl (rd_mono (l.h0.trans r.lv.up) h3)
      exact ⟨false, a, us, rfl, hs _ _ _ _ _ (.refl _) r1, k B1 H1 _ l1 r1 (walk_enumK hs h4)⟩
    · obtain ⟨v, w, rfl, h1, h2⟩ := i1
      cases (show w = [] from h2)
      obtain ⟨a, us, rfl, h3, h4⟩ := h1
      rw [hK] at h3
      have hs : ∀ (B2 : Bs) (σ : Sg) (H : Hp) (st : MS) (fs : Fs), B1.le B2 → Rel c B2 σ H st fs → SqK X.K H true a us := fun B2 σ H st fs l r => sqT_mono (l.h0.trans r.lv.up) h3
      exact ⟨true, a, us, rfl, hs _ _ _ _ _ (.refl _) r1, k B1 H1 _ l1 r1 (walk_enumK hs h4)⟩
    · obtain ⟨v, w, rfl, h1, h2⟩ := i1
      cases (show w = [] from h2)
      obtain ⟨a, us, rfl, h3, h4⟩ := IsD.weak h1
      rw [hK] at h3
      have hs : ∀ (B2 : Bs) (σ : Sg) (H : Hp) (st : MS) (fs : Fs), B1.le B2 → Rel c B2 σ H st fs → SqK X.K H true a us := fun B2 σ H st fs l r => sqT_mono (l.h0.trans r.lv.up) h3
      exact ⟨true, a, us, rfl, hs _ _ _ _ _ (.refl _) r1, k B1 H1 _ l1 r1 (walk_enumK hs h4)⟩
    · exact k.elim⟩⟩
end
end Y
namespace Y
open PySem PySem.Spec PyProof.Rows L2
@[simp] theorem keyOf_int (i : Int) : Y.keyOf (.int i) = some (.inl i) := rfl
@[simp] theorem keyOf_str (i : Str) : Y.keyOf (.str i) = some (.inr i) := rfl
/-! ### plain laws: sets of ints as dicts, comprehensions -/
def insN {α : Type} [DecidableEq α] (ks : List α) (x : α) : List α := if x ∈ ks then ks else ks ++ [x]
theorem insN_mem {α : Type} [DecidableEq α] {ks : List α} {x y : α} : y ∈ insN ks x ↔ y ∈ ks ∨ y = x := by
  unfold insN
  by_cases h : x ∈ ks
  · rw [if_pos h]
    constructor
    · exact .inl
    · rintro (h' | rfl)
      · exact h'
      · exact h
  · rw [if_neg h, List.mem_append, List.mem_singleton]
theorem insN_nodup {α : Type} [DecidableEq α] {ks : List α} {x : α} (h : ks.Nodup) : (insN ks x).Nodup := by
  unfold insN
  by_cases hx : x ∈ ks
  · rw [if_pos hx]; exact h
  · rw [if_neg hx, List.nodup_append]
    exact ⟨h, by simp, fun a ha b hb e => hx (by rw [← List.mem_singleton.mp hb, ← e]; exact ha)⟩
theorem insN_len {α : Type} [DecidableEq α] {ks : List α} {x : α} : (insN ks x).length ≤ ks.length + 1 := by
  unfold insN
  split
  · omega
  · simp
theorem putKs_ins {κ : Type} [DecidableEq κ] (ks : List κ) (k : κ) : putKs ks k = insN ks k := rfl
theorem putDs_same {κ : Type} [DecidableEq κ] {α : Type} (ks : List κ) (k : κ) (x : α) : putDs ks (List.replicate ks.length x) k x = List.replicate (insN ks k).length x := by
  unfold putDs insN
  by_cases h : k ∈ ks
  · rw [if_pos h, if_pos h]
    clear h
    induction ks with
    | nil => rfl
    | cons q ks ih =>
      rw [List.length_cons, List.replicate_succ, List.zipWith_cons_cons, ih]
      simp
  · rw [if_neg h, if_neg h, List.length_append, List.length_singleton, List.replicate_succ']
theorem insN_map {α β : Type} [DecidableEq α] [DecidableEq β] (f : α → β) (hf : ∀ x y, f x = f y → x = y) (ks : List α) (x : α) : insN (ks.map f) (f x) = (insN ks x).map f := by
  unfold insN
  have e : f x ∈ ks.map f ↔ x ∈ ks := by
    rw [List.mem_map]
    exact ⟨fun ⟨y, hy, e⟩ => by rw [← hf _ _ e]; exact hy, fun h => ⟨x, h, rfl⟩⟩
  by_cases h : x ∈ ks
  · rw [if_pos (e.mpr h), if_pos h]
  · rw [if_neg (fun z => h (e.mp z)), if_neg h, List.map_append]
    rfl
/-- the keys of ints -/
def inK (ks : List Int) : List Key := ks.map Sum.inl
/-- a dict that is a set of ints, its values all x -/
def kS (x : D) (ks : List Int) : Fr := .k (inK ks) (List.replicate ks.length x)
@[simp] theorem inK_len (ks : List Int) : (inK ks).length = ks.length := by simp [inK]
@[simp] theorem putKs_in (ks : List Int) (k : Int) : putKs (inK ks) (.inl k) = inK (insN ks k) := by
  rw [putKs_ins]
  exact insN_map Sum.inl (fun x y h => Sum.inl.inj h) ks k
@[simp] theorem putDs_in (ks : List Int) (k : Int) (x : D) : putDs (inK ks) (List.replicate ks.length x) (.inl k) x = List.replicate (insN ks k).length x := by
  have e : ks.length = (inK ks).length := by simp
  rw [e, putDs_same, ← putKs_ins, putKs_in, inK_len]
theorem memK_iff {κ : Type} [DecidableEq κ] {k : κ} {ks : List κ} : memK k ks = true ↔ k ∈ ks := decide_eq_true_iff
@[simp] theorem memK_in (ks : List Int) (k : Int) : memK (Sum.inl k : Key) (inK ks) = decide (k ∈ ks) := by
  rw [Bool.eq_iff_iff, memK_iff, decide_eq_true_eq]
  unfold inK
  rw [List.mem_map]
  exact ⟨fun ⟨y, hy, e⟩ => by rw [← Sum.inl.inj e]; exact hy, fun h => ⟨k, h, rfl⟩⟩
@[simp] theorem keyD_in (ks : List Int) : (inK ks).map keyD = ks.map D.int := by
  unfold inK
  rw [List.map_map]
  rfl
@[simp] theorem intKeys_in : ∀ (ks : List Int), intKeys (inK ks) = some ks
  | [] => rfl
  | k :: ks => by
    show (intKeys (inK ks)).map (k :: ·) = _
    rw [intKeys_in ks]
    rfl
@[simp] theorem intsOf_in : ∀ (ks : List Int), intsOf (ks.map D.int) = some ks
  | [] => rfl
  | k :: ks => by
    have ih := intsOf_in ks
    simp only [List.map_cons]
    unfold intsOf
    rw [ih]
    try rfl
@[simp] theorem keysOf_in : ∀ (ks : List Int), keysOf (ks.map D.int) = some (inK ks)
  | [] => rfl
  | k :: ks => by
    rw [List.map_cons]
    unfold keysOf
    rw [keysOf_in ks]
    rfl
theorem any_ints (t : Int) : ∀ ns : List Int, ((ns.map D.int).any fun z => eqD z (.int t)) = decide (t ∈ ns)
  | [] => by simp
  | n :: ns => by
    rw [List.map_cons, List.any_cons, any_ints t ns, eqD_int, Bool.eq_iff_iff]
    simp only [Bool.or_eq_true, decide_eq_true_eq, List.mem_cons]
    constructor
    · rintro (h | h)
      · exact .inl h.symm
      · exact .inr h
    · rintro (h | h)
      · exact .inl h.symm
      · exact .inr h
theorem flat_ints : ∀ ns : List Int, (ns.map D.int).all fIn.flatD = true
  | [] => rfl
  | n :: ns => by
    rw [List.map_cons, List.all_cons, flat_ints ns]
    rfl
@[simp] theorem fIn_tupI (neg : Bool) (t : Int) (ns : List Int) : fIn neg (.int t) (.tup (ns.map D.int)) = some (.bl (neg != decide (t ∈ ns))) := by
  have h : (fIn.flatD (.int t) && (ns.map D.int).all fIn.flatD) = true := by rw [flat_ints]; rfl
  show (if fIn.flatD (.int t) && (ns.map D.int).all fIn.flatD then some (D.bl (if neg then !((ns.map D.int).any fun z => eqD z (.int t)) else (ns.map D.int).any fun z => eqD z (.int t))) else none) = _
  rw [if_pos h, any_ints]
  cases neg <;> simp
theorem sh_ints (n : Nat) : ∀ ns : List Int, (ns.map D.int).all (sh n) = true
  | [] => rfl
  | k :: ns => by
    rw [List.map_cons, List.all_cons, sh_ints n ns, sh_int]
    rfl
@[simp] theorem fNe_tupI (ns ms : List Int) : fNe (.tup (ns.map D.int)) (.tup (ms.map D.int)) = some (.bl (!decide (ns = ms))) := by
  unfold fNe
  rw [shp_tup, shp_tup, sh_ints, sh_ints, eqD_tup, eqDs_ints]
  rfl
@[simp] theorem fEq_tupI (ns ms : List Int) : fEq (.tup (ns.map D.int)) (.tup (ms.map D.int)) = some (.bl (decide (ns = ms))) := by
  unfold fEq
  rw [shp_tup, shp_tup, sh_ints, sh_ints, eqD_tup, eqDs_ints]
  rfl
@[simp] theorem fNe_lstI (ns ms : List Int) : fNe (.lst (ns.map D.int)) (.lst (ms.map D.int)) = some (.bl (!decide (ns = ms))) := by
  unfold fNe
  rw [shp_lst, shp_lst, sh_ints, sh_ints, eqD_lst, eqDs_ints]
  rfl
@[simp] theorem fEq_lstI (ns ms : List Int) : fEq (.lst (ns.map D.int)) (.lst (ms.map D.int)) = some (.bl (decide (ns = ms))) := by
  unfold fEq
  rw [shp_lst, shp_lst, sh_ints, sh_ints, eqD_lst, eqDs_ints]
  rfl
@[simp] theorem fIn_lstI (neg : Bool) (t : Int) (ns : List Int) : fIn neg (.int t) (.lst (ns.map D.int)) = some (.bl (neg != decide (t ∈ ns))) := by
  have h : (shp (.int t) && shp (.lst (ns.map D.int))) = true := by rw [shp_int, shp_lst, sh_ints]; rfl
  show (if shp (.int t) && shp (.lst (ns.map D.int)) then some (D.bl (if neg then !((ns.map D.int).any fun z => eqD z (.int t)) else (ns.map D.int).any fun z => eqD z (.int t))) else none) = _
  rw [if_pos h, any_ints]
  cases neg <;> simp
/-- sorted of a list without a repeat, by its members -/
theorem sortI_of {ks ms : List Int} (h1 : ks.Nodup) (h2 : ms.Pairwise (· < ·)) (h : ∀ x, x ∈ ks ↔ x ∈ ms) : sortI ks = ms := by
  have n2 : ms.Nodup := h2.imp fun h => Int.ne_of_lt h
  exact (sortI_unique ((List.perm_ext_iff_of_nodup n2 h1).mpr fun x => (h x).symm) (h2.imp fun h => Int.le_of_lt h)).symm
/-- a comprehension whose state does not change -/
theorem lc_map {g : Gt} {me : Mo D} {own : List Nat} (f : D → D) (st : MS) (items : List D) (hi : ∀ x ∈ items, ∃ s1 s3, g x st = some s1 ∧ me s1 = .ok (f x) s3 ∧ ({ s3 with sl := wipeS s3.sl own } : MS) = st) : ∀ (acc : List D), acc.length + items.length ≤ lim → lcL g mYes me own items acc st = .ok (acc ++ items.map f) st := by
  induction items with
  | nil => intro acc _; rw [List.map_nil, List.append_nil]; rfl
  | cons x xs ih =>
    intro acc hl
    obtain ⟨s1, s3, e1, e2, e3⟩ := hi x List.mem_cons_self
    have hl' : acc.length + (xs.length + 1) ≤ lim := hl
    unfold lcL
    simp only [e1, mYes, e2, e3]
    rw [if_pos (decide_eq_true (by omega)), ih (fun y hy => hi y (List.mem_cons_of_mem _ hy)) (acc ++ [f x]) (by rw [List.length_append, List.length_singleton]; omega), List.append_assoc]
    rfl
theorem lc_filter {g : Gt} {mt : Mo Bool} {me : Mo D} {own : List Nat} (p : D → Bool) (f : D → D) (st : MS) (items : List D) (hi : ∀ x ∈ items, ∃ s1 s2, g x st = some s1 ∧ mt s1 = .ok (p x) s2 ∧ (if p x then ∃ s3, me s2 = .ok (f x) s3 ∧ ({ s3 with sl := wipeS s3.sl own } : MS) = st else ({ s2 with sl := wipeS s2.sl own } : MS) = st)) : ∀ (acc : List D), acc.length + items.length ≤ lim → lcL g mt me own items acc st = .ok (acc ++ (items.filter p).map f) st := by
  induction items with
  | nil => intro acc _; rw [List.filter_nil, List.map_nil, List.append_nil]; rfl
  | cons x xs ih =>
    intro acc hl
    obtain ⟨s1, s2, e1, e2, e3⟩ := hi x List.mem_cons_self
    have hl' : acc.length + (xs.length + 1) ≤ lim := hl
    unfold lcL
    simp only [e1, e2]
    by_cases hp : p x = true
    · rw [if_pos hp] at e3
      obtain ⟨s3, e3, e4⟩ := e3
      rw [hp]
      simp only [e3, e4]
      rw [if_pos (decide_eq_true (by omega)), ih (fun y hy => hi y (List.mem_cons_of_mem _ hy)) (acc ++ [f x]) (by rw [List.length_append, List.length_singleton]; omega), List.append_assoc, List.filter_cons_of_pos hp]
      rfl
    · have hp' : p x = false := by simpa using hp
      rw [if_neg hp] at e3
      rw [hp']
      simp only [e3]
      rw [ih (fun y hy => hi y (List.mem_cons_of_mem _ hy)) acc (by omega), List.filter_cons_of_neg hp]
/-- a loop whose state is told by a plain one -/
theorem for_fold {σ : Type} {g : Gt} {body : MoS} {wp : List Nat} (S : σ → MS) (step : σ → D → σ) : ∀ (items : List D) (s : σ), (∀ x ∈ items, ∀ s, ∃ s1 s2, g x (S s) = some s1 ∧ body s1 = .nx s2 ∧ ({ s2 with sl := wipeS s2.sl wp } : MS) = S (step s x)) → mForL g body wp items (S s) = .nx (S (items.foldl step s))
  | [], s, _ => rfl
  | x :: xs, s, h => by
    obtain ⟨s1, s2, e1, e2, e3⟩ := h x List.mem_cons_self s
    unfold mForL
    simp only [e1, e2, e3]
    exact for_fold S step xs (step s x) fun y hy => h y (List.mem_cons_of_mem _ hy)
/-- a loop that hands back at the first hit -/
theorem for_any {g : Gt} {body : MoS} {wp : List Nat} (p : D → Bool) (r : RV) (g0 : G) (st : MS) : ∀ (items : List D), (∀ x ∈ items, ∃ s1, g x st = some s1 ∧ (if p x = true then body s1 = .rt r g0 else ∃ s2, body s1 = .nx s2 ∧ ({ s2 with sl := wipeS s2.sl wp } : MS) = st)) → mForL g body wp items st = if items.any p then .rt r g0 else .nx st
  | [], _ => rfl
  | x :: xs, h => by
    obtain ⟨s1, e1, e2⟩ := h x List.mem_cons_self
    unfold mForL
    simp only [e1]
    rw [List.any_cons]
    by_cases hp : p x = true
    · rw [if_pos hp] at e2
      rw [e2, hp]
      rfl
    · rw [if_neg hp] at e2
      obtain ⟨s2, e2, e3⟩ := e2
      have hp' : p x = false := by simpa using hp
      rw [e2, hp', Bool.false_or]
      simp only [e3]
      exact for_any p r g0 st xs fun y hy => h y (List.mem_cons_of_mem _ hy)
end Y
namespace Y
open PySem PySem.Spec PyProof.Rows L2
section
variable {X : Cx} {c : Cn} {W : WX} {tg e a b d : Expr} {es : List Expr} {pos : Pos}
/-! ### list(range(..)), tuple(range(..)), tuple(list) known to have no dict -/
def rRg (c : Cn) (W : WX) (m : Mo (Int × Int × Nat)) : Sg → Hp → (Int → Int → Nat → Hp → Prop) → Prop := fun σ H Q => ∃ B st fs, Rel c B σ H st fs ∧ Post c W σ B (m st) fun x st => ∀ B' H', B.le B' → Rel c B' σ H' st fs → Q x.1 x.2.1 x.2.2 H'
/-- an expression that gives a range -/
structure RE (X : Cx) (c : Cn) (W : WX) (e : Expr) (m : Mo (Int × Int × Nat)) : Prop where
  pr : ∀ (pins : List (Addr × Obj)) (s : Shared) (σ : Sg) (H : Hp) (Q : Int → Int → Nat → Hp → Prop), L2.Inv X pins σ H s → rRg c W m σ H Q →
    wpAny (model X.prog X.w) X.A (eval e X.env) (fun x s' => ∃ (r : Addr) (lo hi st : Int) (t u v : Tok) (n : Nat) (H' : Hp), x = .ref r ∧ IsRange s'.heap r lo hi st t u v ∧ Builtin.Range.small lo hi st = true ∧ Builtin.Range.rangeSize lo hi st = (n : Int) ∧ n ≤ 2 ^ 24 ∧ L2.Inv X pins σ H' s' ∧ Q lo st n H') X.xe s
@[simp ↓] def ra1 : List D → MS → Rs (Int × Int × Nat)
  | [.int j], s => if (inR j && decide (j.toNat ≤ 16777216)) = true then .ok (0, 1, j.toNat) s else .bad
  | _, _ => .bad
@[simp ↓] def ra2 : List D → MS → Rs (Int × Int × Nat)
  | [.int i, .int j], s => if (inR i && inR j && decide ((j - i).toNat ≤ 16777216)) = true then .ok (i, 1, (j - i).toNat) s else .bad
  | _, _ => .bad
@[simp ↓] def ra3 : List D → MS → Rs (Int × Int × Nat)
  | [.int i, .int j, .int k], s => match stepN i j k with
    | some n => if (decide (n ≤ 16777216) && decide (k.natAbs < 1073741824)) = true then .ok (i, k, n) s else .bad
    | none => .bad
  | _, _ => .bad
@[simp ↓] def mRa1 (ms : Mo (List D)) (st : MS) : Rs (Int × Int × Nat) := (ms st).then ra1
@[simp ↓] def mRa2 (ms : Mo (List D)) (st : MS) : Rs (Int × Int × Nat) := (ms st).then ra2
@[simp ↓] def mRa3 (ms : Mo (List D)) (st : MS) : Rs (Int × Int × Nat) := (ms st).then ra3
theorem stepN_ok {i j k : Int} {n : Nat} (h : stepN i j k = some n) : k ≠ 0 ∧ k.natAbs < 1073741824 ∧ Builtin.Range.small i j k = true ∧ Builtin.Range.rangeSize i j k = (n : Int) := by
  unfold stepN at h
  split at h
  · rename_i q
    rw [Bool.and_eq_true, Bool.and_eq_true] at q
    split at h
    · cases h
      exact ⟨of_decide_eq_true q.1.1, of_decide_eq_true q.1.2, q.2, by omega⟩
    · cases h
  · cases h
theorem pow24 : (2 : Nat) ^ 24 = 16777216 := by decide
theorem re_1 {p : Pos} {ms : Mo (List D)} (hg : Gl X "range") (hm : X.mg "range" = none) (ha : AE X c W [a] ms) (hs : starEach [a] X.env = (false, eval a X.env) :: starEach [] X.env := by rfl) : RE X c W (.Call (.Name "range" p) [a] [] pos) (mRa1 ms) := by
  refine ⟨fun pins s σ H Q I ⟨B, st, fs, r, p⟩ => ?_⟩
  refine Call_ (ld_blt I hg hm boot_range (PyProof.Rows.callWith_type1 (thn (ha.pa.run pos pins s σ H (fun vs H1 => ∃ j : Int, vs = [.int j] ∧ inR j = true ∧ j.toNat ≤ 16777216 ∧ Q 0 1 j.toNat H1) I ⟨B, st, fs, r, (Post.bind p).up (.refl B) fun ds s k B1 H1 vs l1 r1 i1 => ?_⟩) fun us s1 ⟨vs, H1, I1, r1, q1⟩ => ?_) hs rfl))
  · unfold ra1 at k
    split at k
    · split at k
      · rename_i j q
        rw [Bool.and_eq_true] at q
        obtain ⟨v, w, rfl, h1, h2⟩ := i1
        cases (show w = [] from h2)
        exact ⟨j, by rw [(show v = .int j from h1)], q.1, of_decide_eq_true q.2, k B1 H1 l1 r1⟩
      · exact k.elim
    · exact k.elim
  · obtain ⟨j, rfl, hj, hn, q⟩ := q1
    obtain ⟨u, rfl, ru⟩ := vals1 r1
    obtain ⟨t, rfl⟩ := ru
    have hj2 := inR_ok hj
    refine call_range_1 ⟨_, 0, j, 1, _, _, _, j.toNat, H1, rfl, IsRange.new _ _ _ _ _ _ _, small_one (by decide) (by decide) hj2.1 hj2.2, ?_, by rw [pow24]; exact hn, I1.kept fun b u e => Heap.get?_push_of_some _ e, q⟩
    rw [rangeSize_nat, Int.sub_zero]
theorem re_2 {p : Pos} {ms : Mo (List D)} (hg : Gl X "range") (hm : X.mg "range" = none) (ha : AE X c W [a, b] ms) (hs : starEach [a, b] X.env = (false, eval a X.env) :: starEach [b] X.env := by rfl) (hpl : (backTo pos (starEach [b] X.env)).any (·.1) = false := by rfl) : RE X c W (.Call (.Name "range" p) [a, b] [] pos) (mRa2 ms) := by
  refine ⟨fun pins s σ H Q I ⟨B, st, fs, r, p⟩ => ?_⟩
  refine Call_ (ld_blt I hg hm boot_range (PyProof.Rows.callWith_type1 (thn (ha.pa.run pos pins s σ H (fun vs H1 => ∃ i j : Int, vs = [.int i, .int j] ∧ inR i = true ∧ inR j = true ∧ (j - i).toNat ≤ 16777216 ∧ Q i 1 (j - i).toNat H1) I ⟨B, st, fs, r, (Post.bind p).up (.refl B) fun ds s k B1 H1 vs l1 r1 i1 => ?_⟩) fun us s1 ⟨vs, H1, I1, r1, q1⟩ => ?_) hs hpl))
  · unfold ra2 at k
    split at k
    · split at k
      · rename_i i j q
        rw [Bool.and_eq_true, Bool.and_eq_true] at q
        obtain ⟨v, w, rfl, h1, v2, w2, rfl, h3, h4⟩ := i1
        cases (show w2 = [] from h4)
        exact ⟨i, j, by rw [(show v = .int i from h1), (show v2 = .int j from h3)], q.1.1, q.1.2, of_decide_eq_true q.2, k B1 H1 l1 r1⟩
      · exact k.elim
    · exact k.elim
  · obtain ⟨i, j, rfl, hi, hj, hn, q⟩ := q1
    obtain ⟨u, u2, rfl, ru, ru2⟩ := Vals.two r1
    obtain ⟨t, rfl⟩ := ru
    obtain ⟨t2, rfl⟩ := ru2
    have hj2 := inR_ok hj
    have hi2 := inR_ok hi
    exact call_range_2 ⟨_, i, j, 1, _, _, _, (j - i).toNat, H1, rfl, IsRange.new _ _ _ _ _ _ _, small_one hi2.1 hi2.2 hj2.1 hj2.2, rangeSize_nat i j, by rw [pow24]; exact hn, I1.kept fun b u e => Heap.get?_push_of_some _ e, q⟩
theorem re_3 {p : Pos} {ms : Mo (List D)} (hg : Gl X "range") (hm : X.mg "range" = none) (ha : AE X c W [a, b, d] ms) (hs : starEach [a, b, d] X.env = (false, eval a X.env) :: starEach [b, d] X.env := by rfl) (hpl : (backTo pos (starEach [b, d] X.env)).any (·.1) = false := by rfl) : RE X c W (.Call (.Name "range" p) [a, b, d] [] pos) (mRa3 ms) := by
  refine ⟨fun pins s σ H Q I ⟨B, st, fs, r, p⟩ => ?_⟩
  refine Call_ (ld_blt I hg hm boot_range (PyProof.Rows.callWith_type1 (thn (ha.pa.run pos pins s σ H (fun vs H1 => ∃ (i j k : Int) (n : Nat), vs = [.int i, .int j, .int k] ∧ stepN i j k = some n ∧ n ≤ 16777216 ∧ Q i k n H1) I ⟨B, st, fs, r, (Post.bind p).up (.refl B) fun ds s k B1 H1 vs l1 r1 i1 => ?_⟩) fun us s1 ⟨vs, H1, I1, r1, q1⟩ => ?_) hs hpl))
  · unfold ra3 at k
    split at k
    · rename_i i j kk
      split at k
      · rename_i n qn
        split at k
        · rename_i q
          rw [Bool.and_eq_true] at q
          obtain ⟨v, w, rfl, h1, v2, w2, rfl, h3, v3, w3, rfl, h5, h6⟩ := i1
          cases (show w3 = [] from h6)
          exact ⟨i, j, kk, n, by rw [(show v = .int i from h1), (show v2 = .int j from h3), (show v3 = .int kk from h5)], qn, of_decide_eq_true q.1, k B1 H1 l1 r1⟩
        · exact k.elim
      · exact k.elim
    · exact k.elim
  · obtain ⟨i, j, kk, n, rfl, hn, hl, q⟩ := q1
    obtain ⟨h0, h1, h2, h3⟩ := stepN_ok hn
    cases r1 with
    | cons ra rr =>
      cases rr with
      | cons rb rr =>
        cases rr with
        | cons rc rr =>
          cases rr
          obtain ⟨t, rfl⟩ := ra
          obtain ⟨t', rfl⟩ := rb
          obtain ⟨t'', rfl⟩ := rc
          exact call_range_3 h0 ⟨_, i, j, kk, _, _, _, n, H1, rfl, IsRange.new _ _ _ _ _ _ _, h2, h3, by rw [pow24]; exact hl, I1.kept (t' := s1.toks) fun b u e => Heap.get?_push_of_some _ e, q⟩ (.inl (PyProof.noPylong_small h1))
def rgVC (lo st : Int) (n : Nat) : List V := (List.range n).map fun (i : Nat) => V.int (lo + (i : Int) * st)
theorem vals_rgC {lo st : Int} {n : Nat} {acc : Array Value} (h : ItemsOf (fun i v => ∃ t, v = .int (lo + i * st) t) acc n) : Vals (rgVC lo st n) acc.toList := by
  have e : acc.toList.length = n := by rw [Array.length_toList]; exact h.1
  unfold rgVC
  rw [← e]
  refine vals_of_get acc.toList _ fun j u hj => ?_
  obtain ⟨t, rfl⟩ := h.2 j u (by rw [← hj, Array.getElem?_toList])
  exact ⟨t, rfl⟩
theorem isDs_rgC {n : Kn} {B : Bs} (lo st : Int) : ∀ k : Nat, IsDs n B (rgC lo st k) (rgVC lo st k)
  | 0 => rfl
  | k + 1 => by
    unfold rgC rgVC
    rw [List.range_succ, List.map_append, List.map_append]
    exact (isDs_rgC lo st k).append ⟨_, [], rfl, rfl, rfl⟩
@[simp] theorem rgC_one (lo : Int) (n : Nat) : rgC lo 1 n = rgD lo n := by simp [rgC, rgD]
@[simp] theorem rgC_len (lo st : Int) (n : Nat) : (rgC lo st n).length = n := by simp [rgC]
@[simp ↓] def mLR (m : Mo (Int × Int × Nat)) (st : MS) : Rs EX := (m st).then fun x s => .ok (.f (.l (rgC x.1 x.2.1 x.2.2))) s
@[simp ↓] def mTR (m : Mo (Int × Int × Nat)) (st : MS) : Rs E1 := (m st).then fun x s => .ok (.d (.tup (rgC x.1 x.2.1 x.2.2))) s
theorem ge_listR [gd : Gd X c] {p : Pos} {m : Mo (Int × Int × Nat)} (hg : Gl X "list") (hm : X.mg "list" = none) (h : RE X c W e m) (na : starEach [e] X.env = (false, eval e X.env) :: starEach [] X.env := by rfl) : GE X c W (.Call (.Name "list" p) [e] [] pos) (mLR m) := by
  refine ⟨⟨fun pins s σ H Q I ⟨B, st, fs, r, p⟩ => ?_⟩⟩
  refine Call_ (ld_blt I hg hm boot_list (PyProof.Rows.callWith_type1 (args_cons (thn (h.pr pins s σ H (fun lo st n H1 => n ≤ 2 ^ 24 → ∀ q, H1 q = none → Q (.ref q) (upd H1 q (.lst (rgVC lo st n)))) I ⟨B, st, fs, r, (Post.bind p).up (.refl B) fun x s k B1 H1 l1 r1 hn q hq => ?_⟩) fun x s1 ⟨r, lo, hi, st, t, u, v, n, H1, ex, hr, hs, hz, hn, I1, q⟩ => args_nil ?_) na) na))
  · exact k B1 _ q l1 (r1.newF hq ⟨_, upd_same, isDs_rgC _ _ _⟩)
  · subst ex
    refine call_list_range (n := n) (I1.ok.hd gd.calm) hr hs hz hn fun h' tk acc c' hk e' hi => ?_
    refine ⟨.ref s1.heap.objs.size, upd H1 s1.heap.objs.size (.lst (rgVC lo st n)), I1.laid hk (Nat.le_refl _) (show ObjOk X.prog X.w _ _ _ (.lst (rgVC lo st n)) from ⟨?_, acc.toList, c', vals_rgC hi, ?_⟩), rfl, q hn _ (I1.hok.fresh (Nat.le_refl _))⟩
    · have : (rgVC lo st n).length = n := by simp [rgVC]
      rw [this, sizeLine_eq]
      omega
    · rw [Array.toArray_toList]; exact e'
theorem ee_tupR [gd : Gd X c] {p : Pos} {m : Mo (Int × Int × Nat)} (hg : Gl X "tuple") (hm : X.mg "tuple" = none) (h : RE X c W e m) (na : starEach [e] X.env = (false, eval e X.env) :: starEach [] X.env := by rfl) : EE X c W (.Call (.Name "tuple" p) [e] [] pos) (mTR m) := by
  refine ⟨⟨fun pins s σ H Q I ⟨B, st, fs, r, p⟩ => ?_⟩⟩
  refine Call_ (ld_blt I hg hm boot_tuple (PyProof.Rows.callWith_type1 (args_cons (thn (h.pr pins s σ H (fun lo st n H1 => n ≤ 2 ^ 24 → ∀ q, H1 q = none → Q (.ref q) (upd H1 q (.tup (rgVC lo st n)))) I ⟨B, st, fs, r, (Post.bind p).up (.refl B) fun x s k B1 H1 l1 r1 hn q hq => ?_⟩) fun x s1 ⟨r, lo, hi, st, t, u, v, n, H1, ex, hr, hs, hz, hn, I1, q⟩ => args_nil ?_) na) na))
  · obtain ⟨le, r2⟩ := r1.newD (o := .tup (rgVC x.1 x.2.1 x.2.2)) hq
    exact k _ _ _ (l1.trans le) r2 ⟨q, _, rfl, .inl (.inl upd_same), isDs_rgC _ _ _⟩
  · subst ex
    refine call_tuple_range (n := n) (I1.ok.hd gd.calm) hr hs hz hn fun h' tk acc hk hi => ?_
    have I2 : L2.Inv X pins σ H1 { s1 with heap := h', toks := tk } := I1.kept hk
    refine ⟨.ref h'.objs.size, upd H1 h'.objs.size (.tup (rgVC lo st n)), I2.laid (t' := tk) (fun c o e => Heap.get?_push_of_some _ e) (Nat.le_refl _) (show ObjOk X.prog X.w _ _ _ (.tup (rgVC lo st n)) from ⟨?_, acc.toList, vals_rgC hi, ?_⟩), rfl, q hn _ (I2.hok.fresh (Nat.le_refl _))⟩
    · have : (rgVC lo st n).length = n := by simp [rgVC]
      rw [this, sizeLine_eq]
      omega
    · rw [Array.toArray_toList]; exact IsTup.new _ _
/-- tuple(xs) of a list, known to have no dict -/
@[simp ↓] def mTupOfF (m : Mo E1) (st : MS) : Rs E1 := (m st).then fun x s => match val x s with
  | some (.lst ds) => .ok (.d (.tupF ds)) s
  | _ => .bad
theorem pe_tupOfF {p : Pos} {ta : TE} (hg : Gl X "tuple") (hm : X.mg "tuple" = none) (ha : PE X a ta) (na : starEach [a] X.env = (false, eval a X.env) :: starEach [] X.env := by rfl) :
    PE X (.Call (.Name "tuple" p) [a] [] pos) (fun σ H Q => ta σ H fun x H1 => ∃ p xs, x = .ref p ∧ Rd H1 p (.lst xs) ∧ ∀ q o, H1 q = none → o.dict = none → Q (.ref q) (upd H1 q (.frz o (.tup xs)))) := by
  refine ⟨fun pins s σ H Q I h => ?_⟩
  refine Call_ (ld_blt I hg hm boot_tuple (PyProof.Rows.callWith_type1 (one_arg ha I h (fun v s2 x H2 I2 r ⟨p, xs, ex, hs, q⟩ => ?_) na) na))
  subst ex
  obtain rfl : v = .ref p := r
  obtain ⟨its, rv, pl, hz⟩ := I2.list (show SqL X.K H2 p xs from .inl hs)
  refine call_tuple_list pl.isList (fun h' hk => ?_) (by rw [List.size_toArray, ← rv.length]; exact hz)
  have I3 : L2.Inv X pins σ H2 { s2 with heap := h' } := I2.kept (t' := s2.toks) hk
  refine ⟨.ref h'.objs.size, upd H2 h'.objs.size (.frz { cls := .type "tuple", data := .seq its.toArray } (.tup xs)), I3.laid (t' := s2.toks) (fun b o e => Heap.get?_push_of_some _ e) (Nat.le_refl _) ?_, rfl, q _ _ (I3.hok.fresh (Nat.le_refl _)) rfl⟩
  exact ⟨Heap.get?_push_size _ rfl, hz, its, rv, IsTup.new _ _⟩
theorem ee_tupOfF {p : Pos} {m : Mo E1} (hg : Gl X "tuple") (hm : X.mg "tuple" = none) (h : EE X c W a m) (na : starEach [a] X.env = (false, eval a X.env) :: starEach [] X.env := by rfl) : EE X c W (.Call (.Name "tuple" p) [a] [] pos) (mTupOfF m) :=
  ⟨peImp (pe_tupOfF hg hm h.pe na) fun σ H Q ⟨B, st, fs, r, p⟩ => ⟨B, st, fs, r, (Post.bind p).up (.refl B) fun x s k B1 H1 v l1 r1 i1 => by
    split at k
    · rename_i ds ex
      obtain ⟨a, vs, rfl, h2, h3⟩ := val_ok r1 i1 ex
      refine ⟨a, vs, rfl, h2, fun q o hq ho => ?_⟩
      obtain ⟨le, r2⟩ := r1.newD (o := .frz o (.tup vs)) hq
      exact k _ _ (.ref q) (l1.trans le) r2 ⟨q, vs, o, rfl, upd_same, ho, h3.mono le _ _⟩
    · exact k.elim⟩⟩
/-- a tuple as any tuple -/
@[simp] def wkE : E1 → E1
  | .d (.tupF ds) => .d (.tup ds)
  | e => e
@[simp ↓] def mWk (m : Mo E1) (st : MS) : Rs E1 := (m st).then fun x s => .ok (wkE x) s
theorem ee_wk {m : Mo E1} (h : EE X c W e m) : EE X c W e (mWk m) :=
  ⟨peImp h.pe fun σ H Q ⟨B, st, fs, r, p⟩ => ⟨B, st, fs, r, (Post.bind p).up (.refl B) fun x s k B1 H1 v l1 r1 i1 => by
    refine k B1 H1 v l1 r1 ?_
    cases x with
    | d y =>
      cases y with
      | tupF ds => exact IsD.weak i1
      | _ => exact i1
    | s i => exact i1⟩⟩
/-! ### xs.pop(i), xs.extend(ys), xs.index(x) -/
@[simp ↓] def mPopAt (mx mi : Mo E1) (st : MS) : Rs E1 := (mx st).then fun x s1 => match thing x s1 with
  | some (.l _) => (mi s1).then fun i s2 => match thing x s2, val i s2 with
    | some (.l ds), some (.int k) => if decide (k.natAbs < 4611686018427387904) = true then (match seqIndex? k ds.length with
      | some j => (match ds[j]? with
        | some d => .ok (.d d) (putT x (.l (ds.eraseIdx j)) s2)
        | none => .bad)
      | none => .bad) else .bad
    | _, _ => .bad
  | _ => .bad
theorem isDs_erase {n : Kn} {B : Bs} : ∀ {ds : List D} {vs : List V} (i : Nat), IsDs n B ds vs → IsDs n B (ds.eraseIdx i) (vs.eraseIdx i)
  | [], vs, i, h => by cases (show vs = [] from h); exact rfl
  | d0 :: ds, vs, 0, h => by
    obtain ⟨w, r, rfl, h2, h3⟩ := h
    exact h3
  | d0 :: ds, vs, i + 1, h => by
    obtain ⟨w, r, rfl, h2, h3⟩ := h
    exact ⟨w, r.eraseIdx i, rfl, h2, isDs_erase i h3⟩
theorem ee_popAt [g : Gd X c] {mx mi : Mo E1} {p1 p2 : Pos} (hx : EE X c W a mx) (hi : EE X c W b mi)
    (hbase : attributeBase a "pop" X.env (eval a X.env) = eval a X.env := by rfl)
    (hfew : ((backTo p2 (starEach [b] X.env)).all (fun x => !x.1) && (backToKw p2 (keywordEach [] X.env)).all (fun x => x.1.isSome)
      && decide ([b].length + ([] : List Keyword).length + (if ([] : List Keyword).isEmpty then 0 else 1) < 30)) = true := by rfl)
    (hline : (p1.endLine == p2.line) = true := by rfl) (hs : starEach [b] X.env = (false, eval b X.env) :: starEach [] X.env := by rfl) (hplain : (backTo p2 (starEach [] X.env)).any (·.1) = false := by rfl) :
    EE X c W (.Call (.Attribute a "pop" p1) [b] [] p2) (mPopAt mx mi) :=
  ⟨peImp (pe_bm PySem.F.plainAttrs_list PySem.F.slot_list_pop PySem.F.type_list_pop mt_popAt hx.pe (pa_cons hi.pe pa_nil hs) hbase hfew hline hs hplain) fun σ H Q ⟨B, st, fs, r, p⟩ => ⟨B, st, fs, r, (Post.bind p).up (.refl B) fun x s1 k B1 H1 v1 l1 r1 i1 => by
    have hK : c.n.K = X.K := by rw [g.n]
    cases q : thing x s1 with
    | none => rw [q] at k; exact k.elim
    | some f =>
      rw [q] at k
      cases f with
      | l ds0 =>
        obtain ⟨a, rfl, ⟨vs0, hvs0, iv0⟩, _⟩ := thing_ok r1 i1 q
        refine ⟨.inl ⟨rfl, vs0, .inl (.inl hvs0)⟩, ?_⟩
        refine ⟨B1, s1, fs, r1, (Post.bind k).up l1 fun i s2 k2 B2 H2 v2 l2 r2 i2 => ?_⟩
        split at k2
        · rename_i ds kk ex ei
          split at k2
          · rename_i hk
            have hk := of_decide_eq_true hk
            split at k2
            · rename_i j hj
              split at k2
              · rename_i dd hd
                obtain ⟨a', ea, ⟨vs, hvs, iv⟩, wr⟩ := thing_ok r2 (i1.mono l2) ex
                cases ea
                obtain ⟨y, hy, iy⟩ := iv.get hd
                have hv2 : v2 = .int kk := val_ok r2 i2 ei
                refine ⟨a, vs, kk, j, y, rfl, by rw [hv2], hvs, by omega, by omega, by rw [iv.length]; exact hj, hy, ?_⟩
                exact k2 B2 _ y (l1.trans l2) (wr _ _ ⟨vs.eraseIdx j, upd_same, isDs_erase j iv⟩) iy
              · exact k2.elim
            · exact k2.elim
          · exact k2.elim
        · exact k2.elim
      | _ => exact k.elim⟩⟩
end
end Y
namespace Y
open PySem PySem.Spec PyProof.Rows L2
section
variable {X : Cx} {c : Cn} {W : WX} {tg e a b d : Expr} {es : List Expr} {pos : Pos}
/-! ### xs.extend(ys) -/
def rExtR : V → List V → Hp → VK → Prop := fun x vs H Q => ∃ l b xs zs, x = .ref l ∧ vs = [.ref b] ∧ H l = some (.lst xs) ∧ Rd H b (.lst zs) ∧ xs.length + zs.length ≤ sizeLine ∧ Q .non (upd H l (.lst (xs ++ zs)))
theorem mt_extR : MtM X "list.extend" rExtR := by
  intro pins s σ H x vs v us Q I rx rv h
  obtain ⟨l, b, xs, zs, rfl, rfl, hH, hB, hz, q⟩ := h
  cases rx
  obtain ⟨u, rfl, ru⟩ := rv.one
  cases ru
  obtain ⟨z, its, n, r, hl, e⟩ := I.lstM hH
  obtain ⟨its2, n2, r2, e2, z2⟩ := Inv.lstR I hB
  have hl2 := r2.length
  have hsz : its.toArray.size + its2.toArray.size ≤ sizeLine := by rw [List.size_toArray, List.size_toArray]; omega
  have hlong : ¬ (!its.toArray.isEmpty && Builtin.List.listTooLong (its.toArray.size + its2.toArray.size)) = true := by
    rw [notLongL hsz, Bool.and_false]
    exact Bool.false_ne_true
  refine call_meets F.slot_list_extend ⟨_, e, rfl⟩ F.entry_list_extend (F.args_list_extend_2 _ _)
    (AutoSeq1.list_extend_list_list_0 l its.toArray n b its2.toArray n2 hlong (by rw [List.size_toArray]; omega) (by omega)) ⟨e, e2, ?_⟩
  refine ⟨.non, _, I.lset (its' := its ++ its2) hH e (by simp) (r.append r2) ?_, rfl, q⟩
  rw [List.length_append]
  omega
@[simp ↓] def mExtend (mx : Mo E1) (me : Mo E1) (st : MS) : RSt := (mx st).st fun x s1 => match thing x s1 with
  | some (.l _) => (me s1).st fun y s2 => match thing x s2, val y s2 with
    | some (.l ds), some (.lst es) => if decide (ds.length + es.length ≤ lim) = true then .nx (putT x (.l (ds ++ es)) s2) else .bad
    | _, _ => .bad
  | _ => .bad
theorem se_extend [g : Gd X c] {mx me : Mo E1} {p1 p2 : Pos} (hx : EE X c W a mx) (he : EE X c W b me)
    (hbase : attributeBase a "extend" X.env (eval a X.env) = eval a X.env := by rfl)
    (hfew : ((backTo p2 (starEach [b] X.env)).all (fun x => !x.1) && (backToKw p2 (keywordEach [] X.env)).all (fun x => x.1.isSome)
      && decide ([b].length + ([] : List Keyword).length + (if ([] : List Keyword).isEmpty then 0 else 1) < 30)) = true := by rfl)
    (hline : (p1.endLine == p2.line) = true := by rfl) (hs : starEach [b] X.env = (false, eval b X.env) :: starEach [] X.env := by rfl) (hplain : (backTo p2 (starEach [] X.env)).any (·.1) = false := by rfl)
    (hsw : swapsWith (.Call (.Attribute a "extend" p1) [b] [] p2) none pos.line X.env = pure false := by rfl) :
    SE X c W (.Expr (.Call (.Attribute a "extend" p1) [b] [] p2) pos) (mExtend mx me) :=
  ⟨psImp (ps_expr (pe_bm PySem.F.plainAttrs_list PySem.F.slot_list_extend PySem.F.type_list_extend mt_extR hx.pe (pa_cons he.pe pa_nil hs) hbase hfew hline hs hplain) hsw) fun D σ H ⟨B, st, r, p⟩ => ⟨B, st, [], r, (PostS.bind p).up (.refl B) fun x s1 k B1 H1 v1 l1 r1 i1 => by
    cases q : thing x s1 with
    | none => rw [q] at k; exact k.elim
    | some f =>
      rw [q] at k
      cases f with
      | l ds0 =>
        obtain ⟨a, rfl, ⟨vs0, hvs0, iv0⟩, _⟩ := thing_ok r1 i1 q
        refine ⟨.inl ⟨rfl, vs0, .inl (.inl hvs0)⟩, ?_⟩
        refine ⟨B1, s1, [], r1, (PostS.bind (σ := σ) k).up l1 fun y s2 k2 B2 H2 v2 l2 r2 i2 => ?_⟩
        split at k2
        · rename_i ds es ex ey
          split at k2
          · rename_i hl
            obtain ⟨a', ea, ⟨vs, hvs, iv⟩, wr⟩ := thing_ok r2 (i1.mono l2) ex
            cases ea
            obtain ⟨b', ws, rfl, h3, iw⟩ := val_ok r2 i2 ey
            refine ⟨a, b', vs, ws, rfl, rfl, hvs, h3, by rw [iv.length, iw.length]; exact lim_ok hl, ?_⟩
            exact k2 B2 σ _ (l1.trans l2) (wr _ _ ⟨vs ++ ws, upd_same, iv.append iw⟩)
          · exact k2.elim
        · exact k2.elim
      | _ => exact k.elim⟩⟩
/-! ### xs.index(x), ints -/
theorem idxOf_first {k : Int} : ∀ {ns : List Int}, k ∈ ns → ns[ns.idxOf k]? = some k ∧ ∀ m z, m < ns.idxOf k → ns[m]? = some z → z ≠ k
  | [], h => nomatch h
  | n :: ns, h => by
    by_cases e : n = k
    · subst e
      rw [List.idxOf_cons_self]
      exact ⟨rfl, fun m z hm => by omega⟩
    · have h' : k ∈ ns := (List.mem_cons.mp h).resolve_left fun z => e z.symm
      obtain ⟨h1, h2⟩ := idxOf_first h'
      have hi : (n :: ns).idxOf k = ns.idxOf k + 1 := by rw [List.idxOf_cons, beq_false_of_ne e]; rfl
      rw [hi]
      refine ⟨h1, fun m z hm hz => ?_⟩
      cases m with
      | zero =>
        cases hz
        exact e
      | succ m => exact h2 m z (by omega) hz
@[simp ↓] def mIdxL (mx : Mo E1) (me : Mo E1) (st : MS) : Rs E1 := (mx st).then fun x s1 => match val x s1 with
  | some (.lst _) => (me s1).then fun y s2 => match val x s2, val y s2 with
    | some (.lst ds), some (.int k) => (match intsOf ds with
      | some ns => if decide (k ∈ ns) = true then .ok (.d (.int (ns.idxOf k : Nat))) s2 else .bad
      | none => .bad)
    | _, _ => .bad
  | _ => .bad
theorem ee_idxL [g : Gd X c] {mx me : Mo E1} {apos cpos : Pos} (hx : EE X c W a mx) (he : EE X c W b me) (hbase : attributeBase a "index" X.env (eval a X.env) = eval a X.env := by rfl)
    (hfew : ((backTo cpos (starEach [b] X.env)).all (fun x => !x.1) && (backToKw cpos (keywordEach [] X.env)).all (fun x => x.1.isSome)
      && decide ([b].length + ([] : List Keyword).length + (if ([] : List Keyword).isEmpty then 0 else 1) < 30)) = true := by rfl)
    (hline : (apos.endLine == cpos.line) = true := by rfl) (hs : starEach [b] X.env = (false, eval b X.env) :: starEach [] X.env := by rfl) (hplain : (backTo cpos (starEach [] X.env)).any (·.1) = false := by rfl) :
    EE X c W (.Call (.Attribute a "index" apos) [b] [] cpos) (mIdxL mx me) :=
  ⟨peImp (pe_bm PySem.F.plainAttrs_list PySem.F.slot_list_index PySem.F.type_list_index mt_index hx.pe (pa_cons he.pe pa_nil hs) hbase hfew hline hs hplain) fun σ H Q ⟨B, st, fs, r, p⟩ => ⟨B, st, fs, r, (Post.bind p).up (.refl B) fun x s1 k B1 H1 v1 l1 r1 i1 => by
    split at k
    · rename_i ds0 ex0
      obtain ⟨a, vs0, rfl, h0, iv0⟩ := val_ok r1 i1 ex0
      refine ⟨.inl ⟨rfl, vs0, .inl h0⟩, ?_⟩
      refine ⟨B1, s1, fs, r1, (Post.bind k).up l1 fun y s2 k2 B2 H2 v2 l2 r2 i2 => ?_⟩
      split at k2
      · rename_i ds kk ex ey
        split at k2
        · rename_i ns en
          split at k2
          · rename_i hm
            obtain ⟨a', vs, ea, h3, iv⟩ := val_ok r2 (i1.mono l2) ex
            cases ea
            have hy : v2 = .int kk := val_ok r2 i2 ey
            rw [intsOf_ok en] at iv
            rw [iv.ints] at h3
            obtain ⟨f1, f2⟩ := idxOf_first (of_decide_eq_true hm)
            refine ⟨a, ns.map V.int, .int kk, ns.idxOf kk, .int kk, rfl, by rw [hy], .inl h3, rfl, by simp [flatV], ?_, by simp [eqV], fun m z hm' hz => ?_, k2 B2 H2 _ (l1.trans l2) r2 rfl⟩
            · rw [List.getElem?_map, f1]
              rfl
            · rw [List.getElem?_map] at hz
              obtain ⟨w, hw, rfl⟩ := Option.map_eq_some_iff.mp hz
              have := f2 m w hm' hw
              show (w == kk) = false
              simpa using this
          · exact k2.elim
        · exact k2.elim
      · exact k2.elim
    · exact k.elim⟩⟩
/-! ### isinstance(x, (T, U)) -/
@[simp] def isTd2 (T U : Ty) : D → Option D
  | .dctT _ _ => none
  | d => match tyN d with
    | some t => some (.bl (tyIs t T || tyIs t U))
    | none => none
@[simp ↓] def mIsi2 (T U : Ty) (m : Mo E1) (st : MS) : Rs E1 := (m st).then fun e s => opt (((val e s).bind (isTd2 T U)).map E1.d) s
theorem ee_isi2 [g : Gd X c] {x T U : Str} {m : Mo E1} (Ts Us : Ty) {p pT pU tp : Pos} {kk : Nat} (hTs : Ts ≠ .non) (hUs : Us ≠ .non) (hg : Gl X x) (hm : X.mg x = none) (hv : bootBuiltins x = some (.builtin "isinstance")) (ha : EE X c W a m)
    (hgT : Gl X T) (hmT : X.mg T = none) (hvT : bootBuiltins T = some (.type Ts.name)) (hgU : Gl X U) (hmU : X.mg U = none) (hvU : bootBuiltins U = some (.type Us.name))
    (hnT : T ≠ "__name__" := by decide) (hdT : (T == ("__debug__" : Str)) = false := by decide) (hnU : U ≠ "__name__" := by decide) (hdU : (U == ("__debug__" : Str)) = false := by decide) (hn : x ≠ "__name__" := by decide) (hdb : (x == ("__debug__" : Str)) = false := by decide)
    (h1 : starEach [a, .Tuple [.Name T pT, .Name U pU] kk tp] X.env = (false, eval a X.env) :: starEach [.Tuple [.Name T pT, .Name U pU] kk tp] X.env := by rfl)
    (h2 : starEach [.Tuple [.Name T pT, .Name U pU] kk tp] X.env = (false, eval (.Tuple [.Name T pT, .Name U pU] kk tp) X.env) :: starEach [] X.env := by rfl)
    (h3 : starEach [.Name T pT, .Name U pU] X.env = (false, eval (.Name T pT) X.env) :: starEach [.Name U pU] X.env := by rfl) (h4 : starEach [.Name U pU] X.env = (false, eval (.Name U pU) X.env) :: starEach [] X.env := by rfl)
    (hpl : (backTo pos (starEach [.Tuple [.Name T pT, .Name U pU] kk tp] X.env)).any (·.1) = false := by rfl) :
    EE X c W (.Call (.Name x p) [a, .Tuple [.Name T pT, .Name U pU] kk tp] [] pos) (mIsi2 Ts Us m) :=
  ⟨peImp (pe_callB call_isiT hg hm hv (pa_cons ha.pe (pa_cons (pe_tup (pa_cons (pe_bltn (v := .ty Ts.name) hgT hmT hvT rfl hnT hdT) (pa_cons (pe_bltn (v := .ty Us.name) hgU hmU hvU rfl hnU hdU) pa_nil h4) h3)) pa_nil h2) h1) hn hdb h1 hpl) fun σ H Q ⟨B, st, fs, r, p⟩ => ⟨B, st, fs, r, (Post.bind p).up (.refl B) fun x s k B1 H1 v l1 r1 i1 => by
    have hK : c.n.K = X.K := by rw [g.n]
    cases q : val x s with
    | none => rw [q] at k; exact k.elim
    | some d =>
      rw [q] at k
      have nd : ∀ ks ds, d ≠ .dctT ks ds := fun ks ds e => by subst e; exact k.elim
      have hk : ∃ t, tyN d = some t ∧ Post c W σ B (opt (some (E1.d (.bl (tyIs t Ts || tyIs t Us)))) s) (KE c σ B fs Q) := by
        cases q2 : tyN d with
        | none =>
          exfalso
          cases d <;> first | (simp only [Option.bind_some, isTd2, q2, Option.map_none] at k; exact k.elim) | exact nd _ _ rfl
        | some t =>
          refine ⟨t, rfl, ?_⟩
          cases d <;> first | (simp only [Option.bind_some, isTd2, q2, Option.map_some] at k; exact k) | exact (nd _ _ rfl).elim
      obtain ⟨t, ht, k'⟩ := hk
      refine ⟨by show 2 ≤ sizeLine; rw [sizeLine_eq]; decide, fun tp htp => ?_⟩
      obtain ⟨le, r2⟩ := r1.newD (o := .tup [.ty Ts.name, .ty Us.name]) htp
      have tyx := hK ▸ ty_ok r2.lv.up (val_ok r2 (i1.mono le) q) ht nd
      refine ⟨v, tp, [.ty Ts.name, .ty Us.name], .type t.name, [.type Ts.name, .type Us.name], _, rfl, upd_same, .cons (.ty _) (.cons (.ty _) .nil), tyx, ?_, k' _ _ _ (l1.trans le) r2 rfl⟩
      refine kitAny_cons (kit_ty (kit_all t Ts hTs)) (fun e1 => ?_) (fun e1 => by rw [e1]; rfl)
      rw [e1, Bool.false_or]
      exact kitAny_cons (kit_ty (kit_all t Us hUs)) (fun e2 => by rw [e2]; exact kitAny_nil) (fun e2 => e2)⟩⟩
/-! ### slices of lists with a step -/
def pickL {α : Type} (xs : List α) (lo hi st : Option Int) : List α := (sliceRange (sliceBounds lo hi st xs.length).1 (sliceBounds lo hi st xs.length).2.1 (sliceBounds lo hi st xs.length).2.2).filterMap (xs[·]?)
theorem pick_vals {xs : List V} {us : List Value} (r : Vals xs us) (idx : List Nat) : Vals (idx.filterMap (xs[·]?)) (idx.filterMap (us[·]?)) := by
  induction idx with
  | nil => exact .nil
  | cons i t ih =>
    rw [List.filterMap_cons, List.filterMap_cons]
    cases hx : xs[i]? with
    | none =>
      have hu : us[i]? = none := by
        rw [List.getElem?_eq_none_iff] at hx ⊢
        rw [← r.length]
        exact hx
      rw [hu]
      exact ih
    | some x =>
      obtain ⟨u, hu, ru⟩ := r.get hx
      rw [hu]
      exact .cons ru ih
theorem pick_isDs {n : Kn} {B : Bs} {ds : List D} {vs : List V} (h : IsDs n B ds vs) (idx : List Nat) : IsDs n B (idx.filterMap (ds[·]?)) (idx.filterMap (vs[·]?)) := by
  induction idx with
  | nil => rfl
  | cons i t ih =>
    rw [List.filterMap_cons, List.filterMap_cons]
    cases hx : ds[i]? with
    | none =>
      have hu : vs[i]? = none := by
        rw [List.getElem?_eq_none_iff] at hx ⊢
        rw [h.length]
        exact hx
      rw [hu]
      exact ih
    | some x =>
      obtain ⟨u, hu, ru⟩ := h.get hx
      rw [hu]
      exact ⟨u, _, rfl, ru, ih⟩
theorem pick_arr (us : List Value) (lo hi st : Option Int) : slicePick us.toArray lo hi st = (pickL us lo hi st).toArray := by
  unfold slicePick pickL
  rw [List.size_toArray]
  congr 1
  simp
theorem pick_len {α : Type} (xs : List α) (lo hi : Option Int) {st : Int} : (pickL xs lo hi (some st)).length ≤ (sliceRange (sliceBounds lo hi (some st) xs.length).1 (sliceBounds lo hi (some st) xs.length).2.1 (sliceBounds lo hi (some st) xs.length).2.2).length := List.length_filterMap_le _ _
theorem pe_stepL {e : Expr} {te : TE} {lo hi : Option Expr} {to1 to2 : TO} {j : Nat} {i : Int} {p1 p3 : Pos} (he : PE X e te) (hl : L2.PO X lo to1) (hh : L2.PO X hi to2) (h0 : i ≠ 0) :
    PE X (.Subscript e (.Slice lo hi (some (.Constant (.int i) j p1)) p3) pos) (fun σ H Q => te σ H fun x H1 => to1 σ H1 fun l H2 => to2 σ H2 fun h H3 => ∃ a xs, x = .ref a ∧ SqL X.K H3 a xs ∧ (pickL xs l h (some i)).length ≤ sizeLine ∧ ∀ p, H3 p = none → Q (.ref p) (upd H3 p (.lst (pickL xs l h (some i))))) := by
  refine ⟨fun pins s σ H Q I h => ?_⟩
  refine Subscript_ (thn (he.run pins s σ H _ I h) fun v s1 ⟨x, H1, I1, r1, q1⟩ => ?_)
  have hst : L2.PO X (some (.Constant (.int i) j p1)) (tPart (tC (.int i))) := po_some pe_int
  refine wpAny_Slice (thn (hl.run pins s1 σ H1 _ I1 q1) fun vl s2 ⟨l, H2, I2, pl, q2⟩ => ?_)
  refine thn (hh.run pins s2 σ H2 _ I2 q2) fun vu s3 ⟨u, H3, I3, pu, q3⟩ => ?_
  refine thn (hst.run pins s3 σ H3 (fun o H4 => o = some i ∧ H4 = H3) I3 ⟨i, rfl, rfl, rfl⟩) fun vs s4 ⟨o, H4, I4, ps, eo, e4⟩ => ?_
  subst eo e4
  obtain ⟨a, xs, ex, hx, hz, q⟩ := q3
  subst ex
  cases r1
  have I5 : L2.Inv X pins σ H4 { s4 with heap := s4.heap.push { cls := .type "slice", data := .fields #[vl, vu, vs] } } := I4.kept (t' := s4.toks) fun b ob q => Heap.get?_push_of_some _ q
  obtain ⟨its, r, ht, hz2⟩ := I5.list hx
  have hlen := r.length
  show wpAny (model X.prog X.w) X.A (subscriptTail e (.Slice lo hi (some (.Constant (.int i) j p1)) p3) (.ref a) (.ref s4.heap.objs.size)) (EP X pins σ Q) X.xe { s4 with heap := s4.heap.push { cls := .type "slice", data := .fields #[vl, vu, vs] } }
  refine tail_any (ops := [.ref a, .ref s4.heap.objs.size]) ht.isList.typeIs (PySem.slot_list_getitem.lookup) ?_ (by with_unfolding_all rfl)
  refine wpAny_getItem_list_slice ht.isList (Heap.IsSliceOf.new _ vl vu vs) pl pu ps (fun z => h0 (Option.some.inj z)) ?_ (by rw [List.size_toArray]; omega)
  rw [pick_arr]
  have rp : Vals (pickL xs l u (some i)) (pickL its l u (some i)) := by
    unfold pickL
    rw [← hlen]
    exact pick_vals r _
  refine ⟨.ref _, _, I5.laid (t' := s4.toks) (o := .lst (pickL xs l u (some i))) (fun b ob q => Heap.get?_push_of_some _ q) (Nat.le_refl _) ?_, rfl, q _ (I5.hok.fresh (Nat.le_refl _))⟩
  exact ⟨hz, _, 0, rp, Heap.get?_push_size _ rfl⟩
@[simp ↓] def mSlS (m : Mo E1) (ml mh : Mo (Option Int)) (i : Int) (st : MS) : Rs EX := (m st).then fun e s1 => (ml s1).then fun lo s2 => (mh s2).then fun hi s3 => match val e s3 with
  | some (.lst ds) => if decide ((pickL ds lo hi (some i)).length ≤ lim) = true then .ok (DR.x (.f (.l (pickL ds lo hi (some i))))) s3 else .bad
  | _ => .bad
theorem ge_slS [g : Gd X c] {m : Mo E1} {ml mh : Mo (Option Int)} {lo hi : Option Expr} {j : Nat} {i : Int} {p1 p3 : Pos} (h : EE X c W e m) (hl : OE X c W lo ml) (hh : OE X c W hi mh) (h0 : i ≠ 0 := by decide) :
    GE X c W (.Subscript e (.Slice lo hi (some (.Constant (.int i) j p1)) p3) pos) (mSlS m ml mh i) :=
  ⟨peImp (pe_stepL h.pe hl.po hh.po h0) fun σ H Q ⟨B, st, fs, r, p⟩ => ⟨B, st, fs, r, (Post.bind p).up (.refl B) fun x s1 k B1 H1 v1 l1 r1 i1 =>
    ⟨B1, s1, fs, r1, (Post.bind k).up l1 fun o s2 k2 B2 H2 l2 r2 => ⟨B2, s2, fs, r2, (Post.bind k2).up (l1.trans l2) fun u s3 k3 B3 H3 l3 r3 => by
      have hK : c.n.K = X.K := by rw [g.n]
      split at k3
      · rename_i ds q
        split at k3
        · rename_i hz
          obtain ⟨p, vs, rfl, h2, h3⟩ := val_ok r3 (i1.mono (l2.trans l3)) q
          have e1 : (pickL vs o u (some i)).length = (pickL ds o u (some i)).length := by
            unfold pickL
            rw [← h3.length]
            exact (pick_isDs h3 _).length
          refine ⟨p, vs, rfl, .inl h2, by rw [e1]; exact lim_ok hz, fun q hq => ?_⟩
          have hp : IsDs c.n B3 (pickL ds o u (some i)) (pickL vs o u (some i)) := by
            unfold pickL
            rw [← h3.length]
            exact pick_isDs h3 _
          have k3' : KX c σ B3 fs Q (DR.x (.f (.l (pickL ds o u (some i))))) s3 := KX.up k3 ((l1.trans l2).trans l3)
          exact k3' B3 _ q (.refl B3) (r3.newF (f := .l (pickL ds o u (some i))) hq ⟨_, upd_same, hp⟩)
        · exact k3.elim
      · exact k3.elim⟩⟩⟩⟩
end
theorem sse_bad {X : Cx} {c : Cn} {W : WX} {ss : List Stmt} : SSE X c W ss mBad := ⟨⟨fun pins st σ H D I ⟨B, s, r, p⟩ => p.elim⟩⟩
theorem cal_bad {T : List (Addr × Str)} {P : Program} {w : World} {K : PySem.W.Frag} {mg : Str → Option Value} {base : Heap} {x : Str} {st : Stmt} {N ps : List Str} (Dx : DefAt K mg x st ps) (S : FnScope N ps (defScope st)) (hps : ps.length ≤ N.length) (k : Nat) :
    Cal P w K mg base T x ps.length (fnM N.length mBad) (k + 1) := cal_of Dx S hps fun _ _ _ _ _ _ _ _ _ _ _ => sse_bad
end Y
namespace Y
open PySem PySem.Spec PyProof.Rows L2
section
variable {X : Cx} {c : Cn} {W : WX} {tg e a b d : Expr} {es : List Expr} {pos : Pos}
theorem rep_vals {xs : List V} {us : List Value} (r : Vals xs us) : ∀ n, Vals (List.replicate n xs).flatten (List.replicate n us).flatten
  | 0 => .nil
  | n + 1 => by
    rw [List.replicate_succ, List.replicate_succ, List.flatten_cons, List.flatten_cons]
    exact r.append (rep_vals r n)
theorem rep_isDs {n : Kn} {B : Bs} {ds : List D} {vs : List V} (h : IsDs n B ds vs) : ∀ k, IsDs n B (List.replicate k ds).flatten (List.replicate k vs).flatten
  | 0 => rfl
  | k + 1 => by
    rw [List.replicate_succ, List.replicate_succ, List.flatten_cons, List.flatten_cons]
    exact h.append (rep_isDs h k)
theorem rep_len {α : Type} (xs : List α) (n : Nat) : (List.replicate n xs).flatten.length = xs.length * n := by
  simp [Nat.mul_comm]
theorem op_mulL : OpR X (binaryOp .Mult) (fun x y H Q => ∃ l n xs, x = .ref l ∧ y = .int n ∧ Rd H l (.lst xs) ∧ n.natAbs ≤ lim ∧ xs.length * n.toNat ≤ sizeLine ∧ ∀ p, H p = none → Q (.ref p) (upd H p (.lst (List.replicate n.toNat xs).flatten))) := by
  intro pins s σ H x y v u Q I rx ry h
  obtain ⟨l, n, xs, rfl, rfl, hH, hn, hz, q⟩ := h
  cases rx
  obtain ⟨tk, rfl⟩ := ry
  obtain ⟨its, k, r, e, _⟩ := Inv.lstR I hH
  have hl := r.length
  have hsz : its.toArray.size * n.toNat ≤ sizeLine := by rw [List.size_toArray, ← hl]; exact hz
  have hlim : lim = 1000000 := rfl
  have hs := sizeLine_eq
  rw [hlim] at hn
  generalize hg : its.toArray.size * n.toNat = tot at hsz
  refine wpAny_binaryOp_repeat_ref (T := "list") (U := "int") (by decide) ⟨_, e, rfl⟩ (fun s' => typeIs_int s' n tk) noFill_list_mul F.fills_int_mul F.slot_int_rmul repeat_list F.slot_int_index.lookup
    (call_meets F.slot_int_rmul (typeIs_int s n tk) F.entry_int_rmul (F.args_int_rmul_2 _ _) (lm_int_rmul_list_any n tk l its.toArray k none #[])
      ⟨e, rfl, ⟨_, e, rfl⟩, call_meets F.slot_list_mul ⟨_, e, rfl⟩ F.entry_list_mul (F.args_list_mul_2 _ _)
        (lm_list_mul_any l its.toArray k none #[] n tk (by simp [Builtin.List.listFitsIndex]; omega) (by rw [hg]; omega) (by rw [hg]; simp [Builtin.List.listTooLong]; omega))
        ⟨e, ?_⟩⟩)
  rw [listMul_foldl_if]
  exact ⟨.ref _, _, I.lnew (t' := s.toks) (rep_vals r n.toNat) (by rw [rep_len]; exact hz), rfl, q _ I.fresh⟩
@[simp] def fMul : D → D → Option DR
  | .lst ds, .int n => if decide (n.natAbs ≤ lim) = true then if decide (ds.length * n.toNat ≤ lim) = true then some (.f (.l (List.replicate n.toNat ds).flatten)) else none else none
  | _, _ => none
theorem ok_mul [g : Gd X c] : OkG X c (binaryOp .Mult) fMul := ⟨_, op_mulL, fun B σ H st fs x y a b d Q R va vb e k => by
  unfold fMul at e
  split at e
  · rename_i ds n
    split at e
    · rename_i q1
      split at e
      · rename_i q2
        cases e
        obtain ⟨p, vs, rfl, h2, h3⟩ := va
        have hb : y = .int n := vb
        subst hb
        refine ⟨p, n, vs, rfl, rfl, h2, of_decide_eq_true q1, by rw [h3.length]; exact lim_ok q2, fun q hq => ?_⟩
        exact k B _ q (.refl B) (R.newF (f := .l (List.replicate n.toNat ds).flatten) hq ⟨_, upd_same, rep_isDs h3 _⟩)
      · cases e
    · cases e
  · cases e⟩
@[simp] theorem rep_one {α : Type} (x : α) (n : Nat) : (List.replicate n [x]).flatten = List.replicate n x := by
  induction n with
  | zero => rfl
  | succ n ih => rw [List.replicate_succ, List.flatten_cons, ih]; rfl
end
end Y
namespace Y
open PySem PySem.Spec PyProof.Rows L2
/-- a dict of int keys whose values a function tells -/
def kF (F : Int → D) (ks : List Int) : Fr := .k (inK ks) (ks.map F)
theorem lookD_F (F : Int → D) (k : Int) : ∀ ks : List Int, lookD (Sum.inl k : Key) (inK ks) (ks.map F) = if k ∈ ks then some (F k) else none
  | [] => rfl
  | q :: ks => by
    show lookD _ (Sum.inl q :: inK ks) (F q :: ks.map F) = _
    unfold lookD
    by_cases e : q = k
    · subst e
      rw [if_pos rfl, if_pos List.mem_cons_self]
    · rw [if_neg (fun z => e (Sum.inl.inj z)), lookD_F F k ks]
      have : (k ∈ q :: ks) ↔ k ∈ ks := by
        rw [List.mem_cons]
        exact ⟨fun h => h.resolve_left fun z => e z.symm, .inr⟩
      by_cases h : k ∈ ks
      · rw [if_pos h, if_pos (this.mpr h)]
      · rw [if_neg h, if_neg (fun z => h (this.mp z))]
theorem putDs_F (F : Int → D) (k : Int) (x : D) (ks : List Int) : putDs (inK ks) (ks.map F) (Sum.inl k : Key) x = (insN ks k).map fun q => if q = k then x else F q := by
  unfold putDs insN
  have hm : ((Sum.inl k : Key) ∈ inK ks) ↔ k ∈ ks := by
    unfold inK
    rw [List.mem_map]
    exact ⟨fun ⟨y, hy, e⟩ => Sum.inl.inj e ▸ hy, fun h => ⟨k, h, rfl⟩⟩
  by_cases h : k ∈ ks
  · rw [if_pos (hm.mpr h), if_pos h]
    clear hm h
    induction ks with
    | nil => rfl
    | cons q ks ih =>
      show (if (Sum.inl q : Key) = Sum.inl k then x else F q) :: _ = _ :: _
      have e : ((Sum.inl q : Key) = Sum.inl k) ↔ q = k := ⟨fun z => Sum.inl.inj z, fun z => by rw [z]⟩
      congr 1
      by_cases z : q = k
      · simp [z]
      · simp [z]
  · rw [if_neg (fun z => h (hm.mp z)), if_neg h, List.map_append]
    congr 1
    · refine List.map_congr_left fun q hq => ?_
      have : q ≠ k := fun z => h (z ▸ hq)
      rw [if_neg this]
    · simp
end Y
namespace Law
open PySem PySem.Spec PyProof.Rows L2 Y
def topS (i : Nat) : Stmt := PySem.Challenge.pw_wordhouse_k75_whole_levels.main.body.getD i (.Pass ⟨0, 0, 0, 0⟩)
abbrev k_MOST_WIDTH : D := .int 64
structure Zs (K : PySem.W.Frag) (mg : Str → Option Value) : Prop where
  z_abs : mg "abs" = none
  z_all : mg "all" = none
  z_bool : mg "bool" = none
  z_enumerate : mg "enumerate" = none
  z_int : mg "int" = none
  z_isinstance : mg "isinstance" = none
  z_len : mg "len" = none
  z_list : mg "list" = none
  z_max : mg "max" = none
  z_range : mg "range" = none
  z_sorted : mg "sorted" = none
  z_str : mg "str" = none
  z_sum : mg "sum" = none
  z_tuple : mg "tuple" = none
  z_zip : mg "zip" = none
  g_MOST_WIDTH : KonstAt K mg "MOST_WIDTH" k_MOST_WIDTH
abbrev s_is_integer : Stmt := topS 1
theorem sc_is_integer : FnScope ["thing"] ["thing"] (defScope s_is_integer) := ⟨rfl, rfl, rfl, by decide +kernel, rfl, by decide +kernel, by decide +kernel⟩
def m_is_integer : MoS :=
  (mRet (mX (mAndV (mIsi .int (mVar 0)) (mNotV (mIsi .bl (mVar 0))))))
def F_is_integer : Fm := fnM 1 m_is_integer
theorem body_is_integer {T : List (Addr × Str)} {P : Program} {w : World} {K : PySem.W.Frag} {mg : Str → Option Value} {base : Heap} (Z : Zs K mg)  (f : Addr) (cdv : Value) (A : Around) (outer : List Env) (s : Shared) (H : Hp) (B : Bs) (E : XK) (hr : L2.Room 0 (A.deeper (envOfC "is_integer" (defScope s_is_integer) s.heap.objs.size f cdv))) (nd : Fact' (["thing"] : List Str).Nodup) :
    SSE (cxD P w K mg base ["thing"] "is_integer" (defScope s_is_integer) f cdv A outer s H E) ⟨⟨K, mg, T⟩, (["thing"] : List Str).length, B, H⟩ (WD E) (defBody s_is_integer) m_is_integer := by
  have hu := hr.units
  have hu5 := hr.units5
  exact (sse_one (se_ret (ge_e (ee_and (ee_isi .int (by decide) rfl Z.z_isinstance (by decide +kernel) (v 0) rfl Z.z_int (by decide +kernel)) (ee_one (ee_not (ee_isi .bl (by decide) rfl Z.z_isinstance (by decide +kernel) (v 0) rfl Z.z_bool (by decide +kernel))))))))
theorem cal_is_integer {T : List (Addr × Str)} {P : Program} {w : World} {K : PySem.W.Frag} {mg : Str → Option Value} {base : Heap} (Dx : DefAt K mg "is_integer" s_is_integer ["thing"]) (Z : Zs K mg)  : Cal P w K mg base T "is_integer" 1 F_is_integer 1 :=
  have h : Cal P w K mg base T "is_integer" (["thing"] : List Str).length (fnM (["thing"] : List Str).length m_is_integer) (0 + 1) := cal_of Dx sc_is_integer (by decide) (k := 0) (m := m_is_integer) fun f fd cdv A outer s H B E hr nd => body_is_integer Z  f cdv A outer s H B E hr nd
  h
abbrev s_is_within : Stmt := topS 2
theorem sc_is_within : FnScope ["thing", "low", "high"] ["thing", "low", "high"] (defScope s_is_within) := ⟨rfl, rfl, rfl, by decide +kernel, rfl, by decide +kernel, by decide +kernel⟩
def m_is_within : MoS :=
  (mRet (mX (mAndV (mFz (mCall F_is_integer (mCons (mKeep (mVar 0)) mNil))) (mChain (iB fun i j => decide (i ≤ j)) (iB fun i j => decide (i ≤ j)) (mVar 1) (mVar 0) (mVar 2)))))
def F_is_within : Fm := fnM 3 m_is_within
theorem body_is_within {T : List (Addr × Str)} {P : Program} {w : World} {K : PySem.W.Frag} {mg : Str → Option Value} {base : Heap} (Z : Zs K mg) (G_is_integer : Cal P w K mg base T "is_integer" 1 F_is_integer 1) (f : Addr) (cdv : Value) (A : Around) (outer : List Env) (s : Shared) (H : Hp) (B : Bs) (E : XK) (hr : L2.Room 1 (A.deeper (envOfC "is_within" (defScope s_is_within) s.heap.objs.size f cdv))) (nd : Fact' (["thing", "low", "high"] : List Str).Nodup) :
    SSE (cxD P w K mg base ["thing", "low", "high"] "is_within" (defScope s_is_within) f cdv A outer s H E) ⟨⟨K, mg, T⟩, (["thing", "low", "high"] : List Str).length, B, H⟩ (WD E) (defBody s_is_within) m_is_within := by
  have hu := hr.units
  have hu5 := hr.units5
  exact (sse_one (se_ret (ge_e (ee_and (ee_fz (ge_call (G_is_integer.k hr (by decide)) rfl (ae_cons (de_keep (v 0)) ae_nil) rfl (hms := (mCons_len mNil_len)))) (ee_one (ee_chain ok_le ok_le (v 1) (v 0) (v 2)))))))
theorem cal_is_within {T : List (Addr × Str)} {P : Program} {w : World} {K : PySem.W.Frag} {mg : Str → Option Value} {base : Heap} (Dx : DefAt K mg "is_within" s_is_within ["thing", "low", "high"]) (Z : Zs K mg) (G_is_integer : Cal P w K mg base T "is_integer" 1 F_is_integer 1) : Cal P w K mg base T "is_within" 3 F_is_within 2 :=
  have h : Cal P w K mg base T "is_within" (["thing", "low", "high"] : List Str).length (fnM (["thing", "low", "high"] : List Str).length m_is_within) (1 + 1) := cal_of Dx sc_is_within (by decide) (k := 1) (m := m_is_within) fun f fd cdv A outer s H B E hr nd => body_is_within Z G_is_integer f cdv A outer s H B E hr nd
  h
abbrev s_is_tuple_of : Stmt := topS 3
theorem sc_is_tuple_of : FnScope ["thing", "many"] ["thing", "many"] (defScope s_is_tuple_of) := ⟨rfl, rfl, rfl, by decide +kernel, rfl, by decide +kernel, by decide +kernel⟩
def m_is_tuple_of : MoS :=
  (mRet (mX (mAndV (mIsi .tup (mVar 0)) (mOp2 fEq (mFz (mCB fLen (vCons (mVar 0) vNil))) (mVar 1)))))
def F_is_tuple_of : Fm := fnM 2 m_is_tuple_of
theorem body_is_tuple_of {T : List (Addr × Str)} {P : Program} {w : World} {K : PySem.W.Frag} {mg : Str → Option Value} {base : Heap} (Z : Zs K mg)  (f : Addr) (cdv : Value) (A : Around) (outer : List Env) (s : Shared) (H : Hp) (B : Bs) (E : XK) (hr : L2.Room 0 (A.deeper (envOfC "is_tuple_of" (defScope s_is_tuple_of) s.heap.objs.size f cdv))) (nd : Fact' (["thing", "many"] : List Str).Nodup) :
    SSE (cxD P w K mg base ["thing", "many"] "is_tuple_of" (defScope s_is_tuple_of) f cdv A outer s H E) ⟨⟨K, mg, T⟩, (["thing", "many"] : List Str).length, B, H⟩ (WD E) (defBody s_is_tuple_of) m_is_tuple_of := by
  have hu := hr.units
  have hu5 := hr.units5
  exact (sse_one (se_ret (ge_e (ee_and (ee_isi .tup (by decide) rfl Z.z_isinstance (by decide +kernel) (v 0) rfl Z.z_tuple (by decide +kernel)) (ee_one (ee_cmp (ok_eq hu) (ee_fz (ge_callB ok_len rfl Z.z_len (by decide +kernel) (ve_cons (v 0) ve_nil))) (v 1) (nomark _)))))))
theorem cal_is_tuple_of {T : List (Addr × Str)} {P : Program} {w : World} {K : PySem.W.Frag} {mg : Str → Option Value} {base : Heap} (Dx : DefAt K mg "is_tuple_of" s_is_tuple_of ["thing", "many"]) (Z : Zs K mg)  : Cal P w K mg base T "is_tuple_of" 2 F_is_tuple_of 1 :=
  have h : Cal P w K mg base T "is_tuple_of" (["thing", "many"] : List Str).length (fnM (["thing", "many"] : List Str).length m_is_tuple_of) (0 + 1) := cal_of Dx sc_is_tuple_of (by decide) (k := 0) (m := m_is_tuple_of) fun f fd cdv A outer s H B E hr nd => body_is_tuple_of Z  f cdv A outer s H B E hr nd
  h
abbrev s_are_integers : Stmt := topS 4
theorem sc_are_integers : FnScope ["thing", "item"] ["thing"] (defScope s_are_integers) := ⟨rfl, rfl, rfl, by decide +kernel, rfl, by decide +kernel, by decide +kernel⟩
def m_are_integers : MoS :=
  (mRet (mX (mAndV (mIsi .tup (mVar 0)) (mFz (mCB fAll (vCons (mFz (mLc (mIt (mKeep (mVar 0))) (gN 1) mYes (mKeepX (mCall F_is_integer (mCons (mKeep (mVar 1)) mNil))) [1])) vNil))))))
def F_are_integers : Fm := fnM 2 m_are_integers
theorem body_are_integers {T : List (Addr × Str)} {P : Program} {w : World} {K : PySem.W.Frag} {mg : Str → Option Value} {base : Heap} (Z : Zs K mg) (G_is_integer : Cal P w K mg base T "is_integer" 1 F_is_integer 1) (f : Addr) (cdv : Value) (A : Around) (outer : List Env) (s : Shared) (H : Hp) (B : Bs) (E : XK) (hr : L2.Room 1 (A.deeper (envOfC "are_integers" (defScope s_are_integers) s.heap.objs.size f cdv))) (nd : Fact' (["thing", "item"] : List Str).Nodup) :
    SSE (cxD P w K mg base ["thing", "item"] "are_integers" (defScope s_are_integers) f cdv A outer s H E) ⟨⟨K, mg, T⟩, (["thing", "item"] : List Str).length, B, H⟩ (WD E) (defBody s_are_integers) m_are_integers := by
  have hu := hr.units
  have hu5 := hr.units5
  exact (sse_one (se_ret (ge_e (ee_and (ee_isi .tup (by decide) rfl Z.z_isinstance (by decide +kernel) (v 0) rfl Z.z_tuple (by decide +kernel)) (ee_one (ee_fz (ge_callB ok_all rfl Z.z_all (by decide +kernel) (ve_cons (ee_fz (ge_lc (own := [("item", 1)]) (ie_seq (de_keep (v 0))) (blkOk_by (by kernel_rfl)) (fun _ _ _ _ _ => (tn 1)) (fun _ _ _ _ _ => tt_nil) (fun _ _ _ _ _ => (de_keepX (ge_call (fnkB (G_is_integer.k hr (by decide))) rfl (ae_cons (de_keep (v 1)) ae_nil) rfl (hms := (mCons_len mNil_len))))))) ve_nil))))))))
theorem cal_are_integers {T : List (Addr × Str)} {P : Program} {w : World} {K : PySem.W.Frag} {mg : Str → Option Value} {base : Heap} (Dx : DefAt K mg "are_integers" s_are_integers ["thing"]) (Z : Zs K mg) (G_is_integer : Cal P w K mg base T "is_integer" 1 F_is_integer 1) : Cal P w K mg base T "are_integers" 1 F_are_integers 2 :=
  have h : Cal P w K mg base T "are_integers" (["thing"] : List Str).length (fnM (["thing", "item"] : List Str).length m_are_integers) (1 + 1) := cal_of Dx sc_are_integers (by decide) (k := 1) (m := m_are_integers) fun f fd cdv A outer s H B E hr nd => body_are_integers Z G_is_integer f cdv A outer s H B E hr nd
  h
abbrev s_check_width : Stmt := topS 14
theorem sc_check_width : FnScope ["width"] ["width"] (defScope s_check_width) := ⟨rfl, rfl, rfl, by decide +kernel, rfl, by decide +kernel, by decide +kernel⟩
def m_check_width : MoS :=
  (mIfS (mNot (mTest (mFz (mCall F_is_within (mCons (mKeep (mVar 0)) (mCons (mKeep (mC (.int 1))) (mCons (mKeep (mC k_MOST_WIDTH)) mNil)))))))
    mBad
    mSkip)
def F_check_width : Fm := fnM 1 m_check_width
theorem body_check_width {T : List (Addr × Str)} {P : Program} {w : World} {K : PySem.W.Frag} {mg : Str → Option Value} {base : Heap} (Z : Zs K mg) (G_is_within : Cal P w K mg base T "is_within" 3 F_is_within 2) (f : Addr) (cdv : Value) (A : Around) (outer : List Env) (s : Shared) (H : Hp) (B : Bs) (E : XK) (hr : L2.Room 2 (A.deeper (envOfC "check_width" (defScope s_check_width) s.heap.objs.size f cdv))) (nd : Fact' (["width"] : List Str).Nodup) :
    SSE (cxD P w K mg base ["width"] "check_width" (defScope s_check_width) f cdv A outer s H E) ⟨⟨K, mg, T⟩, (["width"] : List Str).length, B, H⟩ (WD E) (defBody s_check_width) m_check_width := by
  have hu := hr.units
  have hu5 := hr.units5
  exact (sse_one (se_if (te_not (te_val (ee_fz (ge_call (G_is_within.k hr (by decide)) rfl (ae_cons (de_keep (v 0)) (ae_cons (de_keep ee_int) (ae_cons (de_keep (ee_glob rfl (Z.g_MOST_WIDTH).hm (Z.g_MOST_WIDTH).rv ((Z.g_MOST_WIDTH).hd _))) ae_nil))) rfl (hms := (mCons_len (mCons_len (mCons_len mNil_len))))))))
    (sse_one se_bad)
    sse_nil))
theorem cal_check_width {T : List (Addr × Str)} {P : Program} {w : World} {K : PySem.W.Frag} {mg : Str → Option Value} {base : Heap} (Dx : DefAt K mg "check_width" s_check_width ["width"]) (Z : Zs K mg) (G_is_within : Cal P w K mg base T "is_within" 3 F_is_within 2) : Cal P w K mg base T "check_width" 1 F_check_width 3 :=
  have h : Cal P w K mg base T "check_width" (["width"] : List Str).length (fnM (["width"] : List Str).length m_check_width) (2 + 1) := cal_of Dx sc_check_width (by decide) (k := 2) (m := m_check_width) fun f fd cdv A outer s H B E hr nd => body_check_width Z G_is_within f cdv A outer s H B E hr nd
  h
abbrev s_is_word : Stmt := topS 15
theorem sc_is_word : FnScope ["width", "thing"] ["width", "thing"] (defScope s_is_word) := ⟨rfl, rfl, rfl, by decide +kernel, rfl, by decide +kernel, by decide +kernel⟩
def m_is_word : MoS :=
  (mSeq (mDrop (mCall F_check_width (mCons (mKeep (mVar 0)) mNil)))
    (mRet (mCall F_is_within (mCons (mKeep (mVar 1)) (mCons (mKeep (mC (.int 0))) (mCons (mKeep (mOp2 (iI fun i j => i - j) (mOp2 (iC shlC fun i j => i * 2 ^ j.toNat) (mC (.int 1)) (mVar 0)) (mC (.int 1)))) mNil))))))
def F_is_word : Fm := fnM 2 m_is_word
theorem body_is_word {T : List (Addr × Str)} {P : Program} {w : World} {K : PySem.W.Frag} {mg : Str → Option Value} {base : Heap} (Z : Zs K mg) (G_is_within : Cal P w K mg base T "is_within" 3 F_is_within 2) (G_check_width : Cal P w K mg base T "check_width" 1 F_check_width 3) (f : Addr) (cdv : Value) (A : Around) (outer : List Env) (s : Shared) (H : Hp) (B : Bs) (E : XK) (hr : L2.Room 3 (A.deeper (envOfC "is_word" (defScope s_is_word) s.heap.objs.size f cdv))) (nd : Fact' (["width", "thing"] : List Str).Nodup) :
    SSE (cxD P w K mg base ["width", "thing"] "is_word" (defScope s_is_word) f cdv A outer s H E) ⟨⟨K, mg, T⟩, (["width", "thing"] : List Str).length, B, H⟩ (WD E) (defBody s_is_word) m_is_word := by
  have hu := hr.units
  have hu5 := hr.units5
  exact (sse_cons (se_expr (ge_call (G_check_width.k hr (by decide)) rfl (ae_cons (de_keep (v 0)) ae_nil) rfl (hms := (mCons_len mNil_len))))
    (sse_one (se_ret (ge_call (G_is_within.k hr (by decide)) rfl (ae_cons (de_keep (v 1)) (ae_cons (de_keep ee_int) (ae_cons (de_keep (ee_op2 ok_sub (ee_op2 ok_shl ee_int (v 0)) ee_int)) ae_nil))) rfl (hms := (mCons_len (mCons_len (mCons_len mNil_len))))))))
theorem cal_is_word {T : List (Addr × Str)} {P : Program} {w : World} {K : PySem.W.Frag} {mg : Str → Option Value} {base : Heap} (Dx : DefAt K mg "is_word" s_is_word ["width", "thing"]) (Z : Zs K mg) (G_is_within : Cal P w K mg base T "is_within" 3 F_is_within 2) (G_check_width : Cal P w K mg base T "check_width" 1 F_check_width 3) : Cal P w K mg base T "is_word" 2 F_is_word 4 :=
  have h : Cal P w K mg base T "is_word" (["width", "thing"] : List Str).length (fnM (["width", "thing"] : List Str).length m_is_word) (3 + 1) := cal_of Dx sc_is_word (by decide) (k := 3) (m := m_is_word) fun f fd cdv A outer s H B E hr nd => body_is_word Z G_is_within G_check_width f cdv A outer s H B E hr nd
  h
abbrev s_check_word : Stmt := topS 16
theorem sc_check_word : FnScope ["width", "word"] ["width", "word"] (defScope s_check_word) := ⟨rfl, rfl, rfl, by decide +kernel, rfl, by decide +kernel, by decide +kernel⟩
def m_check_word : MoS :=
  (mIfS (mNot (mTest (mFz (mCall F_is_word (mCons (mKeep (mVar 0)) (mCons (mKeep (mVar 1)) mNil))))))
    mBad
    mSkip)
def F_check_word : Fm := fnM 2 m_check_word
theorem body_check_word {T : List (Addr × Str)} {P : Program} {w : World} {K : PySem.W.Frag} {mg : Str → Option Value} {base : Heap} (Z : Zs K mg) (G_is_word : Cal P w K mg base T "is_word" 2 F_is_word 4) (f : Addr) (cdv : Value) (A : Around) (outer : List Env) (s : Shared) (H : Hp) (B : Bs) (E : XK) (hr : L2.Room 4 (A.deeper (envOfC "check_word" (defScope s_check_word) s.heap.objs.size f cdv))) (nd : Fact' (["width", "word"] : List Str).Nodup) :
    SSE (cxD P w K mg base ["width", "word"] "check_word" (defScope s_check_word) f cdv A outer s H E) ⟨⟨K, mg, T⟩, (["width", "word"] : List Str).length, B, H⟩ (WD E) (defBody s_check_word) m_check_word := by
  have hu := hr.units
  have hu5 := hr.units5
  exact (sse_one (se_if (te_not (te_val (ee_fz (ge_call (G_is_word.k hr (by decide)) rfl (ae_cons (de_keep (v 0)) (ae_cons (de_keep (v 1)) ae_nil)) rfl (hms := (mCons_len (mCons_len mNil_len)))))))
    (sse_one se_bad)
    sse_nil))
theorem cal_check_word {T : List (Addr × Str)} {P : Program} {w : World} {K : PySem.W.Frag} {mg : Str → Option Value} {base : Heap} (Dx : DefAt K mg "check_word" s_check_word ["width", "word"]) (Z : Zs K mg) (G_is_word : Cal P w K mg base T "is_word" 2 F_is_word 4) : Cal P w K mg base T "check_word" 2 F_check_word 5 :=
  have h : Cal P w K mg base T "check_word" (["width", "word"] : List Str).length (fnM (["width", "word"] : List Str).length m_check_word) (4 + 1) := cal_of Dx sc_check_word (by decide) (k := 4) (m := m_check_word) fun f fd cdv A outer s H B E hr nd => body_check_word Z G_is_word f cdv A outer s H B E hr nd
  h
abbrev s_is_order : Stmt := topS 18
theorem sc_is_order : FnScope ["width", "thing"] ["width", "thing"] (defScope s_is_order) := ⟨rfl, rfl, rfl, by decide +kernel, rfl, by decide +kernel, by decide +kernel⟩
def m_is_order : MoS :=
  (mSeq (mDrop (mCall F_check_width (mCons (mKeep (mVar 0)) mNil)))
    (mRet (mX (mAndV (mFz (mCall F_are_integers (mCons (mKeep (mVar 1)) mNil))) (mOp2 fEq (mFz (mCB fSortedA (vCons (mVar 1) vNil))) (mFz (mLR (mRa1 (mCons (mKeep (mVar 0)) mNil)))))))))
def F_is_order : Fm := fnM 2 m_is_order
theorem body_is_order {T : List (Addr × Str)} {P : Program} {w : World} {K : PySem.W.Frag} {mg : Str → Option Value} {base : Heap} (Z : Zs K mg) (G_are_integers : Cal P w K mg base T "are_integers" 1 F_are_integers 2) (G_check_width : Cal P w K mg base T "check_width" 1 F_check_width 3) (f : Addr) (cdv : Value) (A : Around) (outer : List Env) (s : Shared) (H : Hp) (B : Bs) (E : XK) (hr : L2.Room 3 (A.deeper (envOfC "is_order" (defScope s_is_order) s.heap.objs.size f cdv))) (nd : Fact' (["width", "thing"] : List Str).Nodup) :
    SSE (cxD P w K mg base ["width", "thing"] "is_order" (defScope s_is_order) f cdv A outer s H E) ⟨⟨K, mg, T⟩, (["width", "thing"] : List Str).length, B, H⟩ (WD E) (defBody s_is_order) m_is_order := by
  have hu := hr.units
  have hu5 := hr.units5
  exact (sse_cons (se_expr (ge_call (G_check_width.k hr (by decide)) rfl (ae_cons (de_keep (v 0)) ae_nil) rfl (hms := (mCons_len mNil_len))))
    (sse_one (se_ret (ge_e (ee_and (ee_fz (ge_call (G_are_integers.k hr (by decide)) rfl (ae_cons (de_keep (v 1)) ae_nil) rfl (hms := (mCons_len mNil_len)))) (ee_one (ee_cmp (ok_eq hu) (ee_fz (ge_callB ok_sortedA rfl Z.z_sorted (by decide +kernel) (ve_cons (v 1) ve_nil))) (ee_fz (ge_listR rfl Z.z_list (re_1 rfl Z.z_range (ae_cons (de_keep (v 0)) ae_nil)))) (nomark _))))))))
theorem cal_is_order {T : List (Addr × Str)} {P : Program} {w : World} {K : PySem.W.Frag} {mg : Str → Option Value} {base : Heap} (Dx : DefAt K mg "is_order" s_is_order ["width", "thing"]) (Z : Zs K mg) (G_are_integers : Cal P w K mg base T "are_integers" 1 F_are_integers 2) (G_check_width : Cal P w K mg base T "check_width" 1 F_check_width 3) : Cal P w K mg base T "is_order" 2 F_is_order 4 :=
  have h : Cal P w K mg base T "is_order" (["width", "thing"] : List Str).length (fnM (["width", "thing"] : List Str).length m_is_order) (3 + 1) := cal_of Dx sc_is_order (by decide) (k := 3) (m := m_is_order) fun f fd cdv A outer s H B E hr nd => body_is_order Z G_are_integers G_check_width f cdv A outer s H B E hr nd
  h
abbrev s_check_order : Stmt := topS 19
theorem sc_check_order : FnScope ["width", "order"] ["width", "order"] (defScope s_check_order) := ⟨rfl, rfl, rfl, by decide +kernel, rfl, by decide +kernel, by decide +kernel⟩
def m_check_order : MoS :=
  (mIfS (mNot (mTest (mFz (mCall F_is_order (mCons (mKeep (mVar 0)) (mCons (mKeep (mVar 1)) mNil))))))
    mBad
    mSkip)
def F_check_order : Fm := fnM 2 m_check_order
theorem body_check_order {T : List (Addr × Str)} {P : Program} {w : World} {K : PySem.W.Frag} {mg : Str → Option Value} {base : Heap} (Z : Zs K mg) (G_is_order : Cal P w K mg base T "is_order" 2 F_is_order 4) (f : Addr) (cdv : Value) (A : Around) (outer : List Env) (s : Shared) (H : Hp) (B : Bs) (E : XK) (hr : L2.Room 4 (A.deeper (envOfC "check_order" (defScope s_check_order) s.heap.objs.size f cdv))) (nd : Fact' (["width", "order"] : List Str).Nodup) :
    SSE (cxD P w K mg base ["width", "order"] "check_order" (defScope s_check_order) f cdv A outer s H E) ⟨⟨K, mg, T⟩, (["width", "order"] : List Str).length, B, H⟩ (WD E) (defBody s_check_order) m_check_order := by
  have hu := hr.units
  have hu5 := hr.units5
  exact (sse_one (se_if (te_not (te_val (ee_fz (ge_call (G_is_order.k hr (by decide)) rfl (ae_cons (de_keep (v 0)) (ae_cons (de_keep (v 1)) ae_nil)) rfl (hms := (mCons_len (mCons_len mNil_len)))))))
    (sse_one se_bad)
    sse_nil))
theorem cal_check_order {T : List (Addr × Str)} {P : Program} {w : World} {K : PySem.W.Frag} {mg : Str → Option Value} {base : Heap} (Dx : DefAt K mg "check_order" s_check_order ["width", "order"]) (Z : Zs K mg) (G_is_order : Cal P w K mg base T "is_order" 2 F_is_order 4) : Cal P w K mg base T "check_order" 2 F_check_order 5 :=
  have h : Cal P w K mg base T "check_order" (["width", "order"] : List Str).length (fnM (["width", "order"] : List Str).length m_check_order) (4 + 1) := cal_of Dx sc_check_order (by decide) (k := 4) (m := m_check_order) fun f fd cdv A outer s H B E hr nd => body_check_order Z G_is_order f cdv A outer s H B E hr nd
  h
abbrev s_laid_of : Stmt := topS 21
theorem sc_laid_of : FnScope ["order", "word", "at", "place"] ["order", "word"] (defScope s_laid_of) := ⟨rfl, rfl, rfl, by decide +kernel, rfl, by decide +kernel, by decide +kernel⟩
def e1_laid_of : Mo D :=
  (mKeep (mOp2 (iC shlC fun i j => i * 2 ^ j.toNat) (mOp2 (iI Builtin.bitAnd) (mOp2 (iC (fun _ j => decide (0 ≤ j)) fun i j => i / 2 ^ j.toNat) (mVar 1) (mVar 3)) (mC (.int 1))) (mVar 2)))
def m_laid_of : MoS :=
  (mRet (mCB fSum (vCons (mFz (mLc (mEnumK (mCons (mKeep (mVar 0)) mNil)) (gT 2 (gsC (gN 2) (gsC (gN 3) gsN))) mYes e1_laid_of [2, 3])) vNil)))
def F_laid_of : Fm := fnM 4 m_laid_of
theorem body_laid_of {T : List (Addr × Str)} {P : Program} {w : World} {K : PySem.W.Frag} {mg : Str → Option Value} {base : Heap} (Z : Zs K mg)  (f : Addr) (cdv : Value) (A : Around) (outer : List Env) (s : Shared) (H : Hp) (B : Bs) (E : XK) (hr : L2.Room 0 (A.deeper (envOfC "laid_of" (defScope s_laid_of) s.heap.objs.size f cdv))) (nd : Fact' (["order", "word", "at", "place"] : List Str).Nodup) :
    SSE (cxD P w K mg base ["order", "word", "at", "place"] "laid_of" (defScope s_laid_of) f cdv A outer s H E) ⟨⟨K, mg, T⟩, (["order", "word", "at", "place"] : List Str).length, B, H⟩ (WD E) (defBody s_laid_of) m_laid_of := by
  have hu := hr.units
  have hu5 := hr.units5
  exact (sse_one (se_ret (ge_callB ok_sum rfl Z.z_sum (by decide +kernel) (ve_cons (ee_fz (ge_lc (own := [("at", 2), ("place", 3)]) (ie_enumK rfl Z.z_enumerate (ae_cons (de_keep (v 0)) ae_nil)) (blkOk_by (by kernel_rfl)) (fun _ _ _ _ _ => (tg_tup (tgs_cons (tn 2) (tgs_cons (tn 3) tgs_nil)))) (fun _ _ _ _ _ => tt_nil) (fun _ _ _ _ _ => (de_keep (ee_op2 ok_shl (ee_op2 ok_and (ee_op2 ok_shr (v 1) (v 3)) ee_int) (v 2)))))) ve_nil))))
theorem cal_laid_of {T : List (Addr × Str)} {P : Program} {w : World} {K : PySem.W.Frag} {mg : Str → Option Value} {base : Heap} (Dx : DefAt K mg "laid_of" s_laid_of ["order", "word"]) (Z : Zs K mg)  : Cal P w K mg base T "laid_of" 2 F_laid_of 1 :=
  have h : Cal P w K mg base T "laid_of" (["order", "word"] : List Str).length (fnM (["order", "word", "at", "place"] : List Str).length m_laid_of) (0 + 1) := cal_of Dx sc_laid_of (by decide) (k := 0) (m := m_laid_of) fun f fd cdv A outer s H B E hr nd => body_laid_of Z  f cdv A outer s H B E hr nd
  h
abbrev s_laid : Stmt := topS 20
theorem sc_laid : FnScope ["width", "order", "word"] ["width", "order", "word"] (defScope s_laid) := ⟨rfl, rfl, rfl, by decide +kernel, rfl, by decide +kernel, by decide +kernel⟩
def m_laid : MoS :=
  (mSeq (mDrop (mCall F_check_order (mCons (mKeep (mVar 0)) (mCons (mKeep (mVar 1)) mNil))))
    (mSeq (mDrop (mCall F_check_word (mCons (mKeep (mVar 0)) (mCons (mKeep (mVar 2)) mNil))))
    (mRet (mCall F_laid_of (mCons (mKeep (mVar 1)) (mCons (mKeep (mVar 2)) mNil))))))
def F_laid : Fm := fnM 3 m_laid
theorem body_laid {T : List (Addr × Str)} {P : Program} {w : World} {K : PySem.W.Frag} {mg : Str → Option Value} {base : Heap} (Z : Zs K mg) (G_laid_of : Cal P w K mg base T "laid_of" 2 F_laid_of 1) (G_check_word : Cal P w K mg base T "check_word" 2 F_check_word 5) (G_check_order : Cal P w K mg base T "check_order" 2 F_check_order 5) (f : Addr) (cdv : Value) (A : Around) (outer : List Env) (s : Shared) (H : Hp) (B : Bs) (E : XK) (hr : L2.Room 5 (A.deeper (envOfC "laid" (defScope s_laid) s.heap.objs.size f cdv))) (nd : Fact' (["width", "order", "word"] : List Str).Nodup) :
    SSE (cxD P w K mg base ["width", "order", "word"] "laid" (defScope s_laid) f cdv A outer s H E) ⟨⟨K, mg, T⟩, (["width", "order", "word"] : List Str).length, B, H⟩ (WD E) (defBody s_laid) m_laid := by
  have hu := hr.units
  have hu5 := hr.units5
  exact (sse_cons (se_expr (ge_call (G_check_order.k hr (by decide)) rfl (ae_cons (de_keep (v 0)) (ae_cons (de_keep (v 1)) ae_nil)) rfl (hms := (mCons_len (mCons_len mNil_len)))))
    (sse_cons (se_expr (ge_call (G_check_word.k hr (by decide)) rfl (ae_cons (de_keep (v 0)) (ae_cons (de_keep (v 2)) ae_nil)) rfl (hms := (mCons_len (mCons_len mNil_len)))))
    (sse_one (se_ret (ge_call (G_laid_of.k hr (by decide)) rfl (ae_cons (de_keep (v 1)) (ae_cons (de_keep (v 2)) ae_nil)) rfl (hms := (mCons_len (mCons_len mNil_len))))))))
theorem cal_laid {T : List (Addr × Str)} {P : Program} {w : World} {K : PySem.W.Frag} {mg : Str → Option Value} {base : Heap} (Dx : DefAt K mg "laid" s_laid ["width", "order", "word"]) (Z : Zs K mg) (G_laid_of : Cal P w K mg base T "laid_of" 2 F_laid_of 1) (G_check_word : Cal P w K mg base T "check_word" 2 F_check_word 5) (G_check_order : Cal P w K mg base T "check_order" 2 F_check_order 5) : Cal P w K mg base T "laid" 3 F_laid 6 :=
  have h : Cal P w K mg base T "laid" (["width", "order", "word"] : List Str).length (fnM (["width", "order", "word"] : List Str).length m_laid) (5 + 1) := cal_of Dx sc_laid (by decide) (k := 5) (m := m_laid) fun f fd cdv A outer s H B E hr nd => body_laid Z G_laid_of G_check_word G_check_order f cdv A outer s H B E hr nd
  h
abbrev s_check_swap : Stmt := topS 23
theorem sc_check_swap : FnScope ["width", "mask", "steps"] ["width", "mask", "steps"] (defScope s_check_swap) := ⟨rfl, rfl, rfl, by decide +kernel, rfl, by decide +kernel, by decide +kernel⟩
def m_check_swap : MoS :=
  (mSeq (mIfS (mOr (mNot (mTest (mFz (mCall F_is_within (mCons (mKeep (mVar 2)) (mCons (mKeep (mC (.int 1))) (mCons (mKeep (mVar 0)) mNil))))))) (mNot (mTest (mFz (mCall F_is_within (mCons (mKeep (mVar 1)) (mCons (mKeep (mC (.int 0))) (mCons (mKeep (mOp2 (iI fun i j => i - j) (mOp2 (iC shlC fun i j => i * 2 ^ j.toNat) (mC (.int 1)) (mVar 0)) (mC (.int 1)))) mNil))))))))
    mBad
    mSkip)
    (mIfS (mOr (mTest (mOp2 (iB fun i j => decide (j < i)) (mOp2 (iC (fun _ j => decide (0 ≤ j)) fun i j => i / 2 ^ j.toNat) (mOp2 (iC shlC fun i j => i * 2 ^ j.toNat) (mVar 1) (mVar 2)) (mVar 0)) (mC (.int 0)))) (mTest (mOp2 fNe (mOp2 (iI Builtin.bitAnd) (mVar 1) (mOp2 (iC shlC fun i j => i * 2 ^ j.toNat) (mVar 1) (mVar 2))) (mC (.int 0)))))
    mBad
    mSkip))
def F_check_swap : Fm := fnM 3 m_check_swap
theorem body_check_swap {T : List (Addr × Str)} {P : Program} {w : World} {K : PySem.W.Frag} {mg : Str → Option Value} {base : Heap} (Z : Zs K mg) (G_is_within : Cal P w K mg base T "is_within" 3 F_is_within 2) (f : Addr) (cdv : Value) (A : Around) (outer : List Env) (s : Shared) (H : Hp) (B : Bs) (E : XK) (hr : L2.Room 2 (A.deeper (envOfC "check_swap" (defScope s_check_swap) s.heap.objs.size f cdv))) (nd : Fact' (["width", "mask", "steps"] : List Str).Nodup) :
    SSE (cxD P w K mg base ["width", "mask", "steps"] "check_swap" (defScope s_check_swap) f cdv A outer s H E) ⟨⟨K, mg, T⟩, (["width", "mask", "steps"] : List Str).length, B, H⟩ (WD E) (defBody s_check_swap) m_check_swap := by
  have hu := hr.units
  have hu5 := hr.units5
  exact (sse_cons (se_if (te_w (we_or (te_not (te_val (ee_fz (ge_call (G_is_within.k hr (by decide)) rfl (ae_cons (de_keep (v 2)) (ae_cons (de_keep ee_int) (ae_cons (de_keep (v 0)) ae_nil))) rfl (hms := (mCons_len (mCons_len (mCons_len mNil_len)))))))) (we_or1 (te_not (te_val (ee_fz (ge_call (G_is_within.k hr (by decide)) rfl (ae_cons (de_keep (v 1)) (ae_cons (de_keep ee_int) (ae_cons (de_keep (ee_op2 ok_sub (ee_op2 ok_shl ee_int (v 0)) ee_int)) ae_nil))) rfl (hms := (mCons_len (mCons_len (mCons_len mNil_len)))))))))))
    (sse_one se_bad)
    sse_nil)
    (sse_one (se_if (te_w (we_or (te_cmp ok_gt (ee_op2 ok_shr (ee_op2 ok_shl (v 1) (v 2)) (v 0)) ee_int (nomark _)) (we_or1 (te_cmp (ok_ne hu) (ee_op2 ok_and (v 1) (ee_op2 ok_shl (v 1) (v 2))) ee_int (nomark _)))))
    (sse_one se_bad)
    sse_nil)))
theorem cal_check_swap {T : List (Addr × Str)} {P : Program} {w : World} {K : PySem.W.Frag} {mg : Str → Option Value} {base : Heap} (Dx : DefAt K mg "check_swap" s_check_swap ["width", "mask", "steps"]) (Z : Zs K mg) (G_is_within : Cal P w K mg base T "is_within" 3 F_is_within 2) : Cal P w K mg base T "check_swap" 3 F_check_swap 3 :=
  have h : Cal P w K mg base T "check_swap" (["width", "mask", "steps"] : List Str).length (fnM (["width", "mask", "steps"] : List Str).length m_check_swap) (2 + 1) := cal_of Dx sc_check_swap (by decide) (k := 2) (m := m_check_swap) fun f fd cdv A outer s H B E hr nd => body_check_swap Z G_is_within f cdv A outer s H B E hr nd
  h
abbrev s_swapped : Stmt := topS 24
theorem sc_swapped : FnScope ["word", "mask", "steps", "change"] ["word", "mask", "steps"] (defScope s_swapped) := ⟨rfl, rfl, rfl, by decide +kernel, rfl, by decide +kernel, by decide +kernel⟩
def m_swapped : MoS :=
  (mSeq (mSet 3 (mX (mOp2 (iI Builtin.bitAnd) (mOp2 (iI Builtin.bitXor) (mOp2 (iC (fun _ j => decide (0 ≤ j)) fun i j => i / 2 ^ j.toNat) (mVar 0) (mVar 2)) (mVar 0)) (mVar 1))))
    (mRet (mX (mOp2 (iI Builtin.bitXor) (mOp2 (iI Builtin.bitXor) (mVar 0) (mVar 3)) (mOp2 (iC shlC fun i j => i * 2 ^ j.toNat) (mVar 3) (mVar 2))))))
def F_swapped : Fm := fnM 4 m_swapped
theorem body_swapped {T : List (Addr × Str)} {P : Program} {w : World} {K : PySem.W.Frag} {mg : Str → Option Value} {base : Heap} (Z : Zs K mg)  (f : Addr) (cdv : Value) (A : Around) (outer : List Env) (s : Shared) (H : Hp) (B : Bs) (E : XK) (hr : L2.Room 0 (A.deeper (envOfC "swapped" (defScope s_swapped) s.heap.objs.size f cdv))) (nd : Fact' (["word", "mask", "steps", "change"] : List Str).Nodup) :
    SSE (cxD P w K mg base ["word", "mask", "steps", "change"] "swapped" (defScope s_swapped) f cdv A outer s H E) ⟨⟨K, mg, T⟩, (["word", "mask", "steps", "change"] : List Str).length, B, H⟩ (WD E) (defBody s_swapped) m_swapped := by
  have hu := hr.units
  have hu5 := hr.units5
  exact (sse_cons (st 3 (ge_e (ee_op2 ok_and (ee_op2 ok_xor (ee_op2 ok_shr (v 0) (v 2)) (v 0)) (v 1))))
    (sse_one (se_ret (ge_e (ee_op2 ok_xor (ee_op2 ok_xor (v 0) (v 3)) (ee_op2 ok_shl (v 3) (v 2)))))))
theorem cal_swapped {T : List (Addr × Str)} {P : Program} {w : World} {K : PySem.W.Frag} {mg : Str → Option Value} {base : Heap} (Dx : DefAt K mg "swapped" s_swapped ["word", "mask", "steps"]) (Z : Zs K mg)  : Cal P w K mg base T "swapped" 3 F_swapped 1 :=
  have h : Cal P w K mg base T "swapped" (["word", "mask", "steps"] : List Str).length (fnM (["word", "mask", "steps", "change"] : List Str).length m_swapped) (0 + 1) := cal_of Dx sc_swapped (by decide) (k := 0) (m := m_swapped) fun f fd cdv A outer s H B E hr nd => body_swapped Z  f cdv A outer s H B E hr nd
  h
abbrev s_exchanged : Stmt := topS 22
theorem sc_exchanged : FnScope ["width", "word", "mask", "steps"] ["width", "word", "mask", "steps"] (defScope s_exchanged) := ⟨rfl, rfl, rfl, by decide +kernel, rfl, by decide +kernel, by decide +kernel⟩
def m_exchanged : MoS :=
  (mSeq (mDrop (mCall F_check_word (mCons (mKeep (mVar 0)) (mCons (mKeep (mVar 1)) mNil))))
    (mSeq (mDrop (mCall F_check_swap (mCons (mKeep (mVar 0)) (mCons (mKeep (mVar 2)) (mCons (mKeep (mVar 3)) mNil)))))
    (mRet (mCall F_swapped (mCons (mKeep (mVar 1)) (mCons (mKeep (mVar 2)) (mCons (mKeep (mVar 3)) mNil)))))))
def F_exchanged : Fm := fnM 4 m_exchanged
theorem body_exchanged {T : List (Addr × Str)} {P : Program} {w : World} {K : PySem.W.Frag} {mg : Str → Option Value} {base : Heap} (Z : Zs K mg) (G_swapped : Cal P w K mg base T "swapped" 3 F_swapped 1) (G_check_swap : Cal P w K mg base T "check_swap" 3 F_check_swap 3) (G_check_word : Cal P w K mg base T "check_word" 2 F_check_word 5) (f : Addr) (cdv : Value) (A : Around) (outer : List Env) (s : Shared) (H : Hp) (B : Bs) (E : XK) (hr : L2.Room 5 (A.deeper (envOfC "exchanged" (defScope s_exchanged) s.heap.objs.size f cdv))) (nd : Fact' (["width", "word", "mask", "steps"] : List Str).Nodup) :
    SSE (cxD P w K mg base ["width", "word", "mask", "steps"] "exchanged" (defScope s_exchanged) f cdv A outer s H E) ⟨⟨K, mg, T⟩, (["width", "word", "mask", "steps"] : List Str).length, B, H⟩ (WD E) (defBody s_exchanged) m_exchanged := by
  have hu := hr.units
  have hu5 := hr.units5
  exact (sse_cons (se_expr (ge_call (G_check_word.k hr (by decide)) rfl (ae_cons (de_keep (v 0)) (ae_cons (de_keep (v 1)) ae_nil)) rfl (hms := (mCons_len (mCons_len mNil_len)))))
    (sse_cons (se_expr (ge_call (G_check_swap.k hr (by decide)) rfl (ae_cons (de_keep (v 0)) (ae_cons (de_keep (v 2)) (ae_cons (de_keep (v 3)) ae_nil))) rfl (hms := (mCons_len (mCons_len (mCons_len mNil_len))))))
    (sse_one (se_ret (ge_call (G_swapped.k hr (by decide)) rfl (ae_cons (de_keep (v 1)) (ae_cons (de_keep (v 2)) (ae_cons (de_keep (v 3)) ae_nil))) rfl (hms := (mCons_len (mCons_len (mCons_len mNil_len)))))))))
theorem cal_exchanged {T : List (Addr × Str)} {P : Program} {w : World} {K : PySem.W.Frag} {mg : Str → Option Value} {base : Heap} (Dx : DefAt K mg "exchanged" s_exchanged ["width", "word", "mask", "steps"]) (Z : Zs K mg) (G_swapped : Cal P w K mg base T "swapped" 3 F_swapped 1) (G_check_swap : Cal P w K mg base T "check_swap" 3 F_check_swap 3) (G_check_word : Cal P w K mg base T "check_word" 2 F_check_word 5) : Cal P w K mg base T "exchanged" 4 F_exchanged 6 :=
  have h : Cal P w K mg base T "exchanged" (["width", "word", "mask", "steps"] : List Str).length (fnM (["width", "word", "mask", "steps"] : List Str).length m_exchanged) (5 + 1) := cal_of Dx sc_exchanged (by decide) (k := 5) (m := m_exchanged) fun f fd cdv A outer s H B E hr nd => body_exchanged Z G_swapped G_check_swap G_check_word f cdv A outer s H B E hr nd
  h
abbrev s_coloured : Stmt := topS 28
theorem sc_coloured : FnScope ["order", "half", "back", "at", "place", "first", "last", "start", "is_up", "other"] ["order", "half"] (defScope s_coloured) := ⟨rfl, rfl, rfl, by decide +kernel, rfl, by decide +kernel, by decide +kernel⟩
def t1_coloured : Mo Bool :=
  (mTest (mOp2 (fIsN false) (mOp2 fIx (mVar 6) (mOp2 (iC (fun _ j => decide (0 < j)) fun i j => i % j) (mVar 3) (mVar 1))) (mC .non)))
def b2_coloured : MoS :=
  (mSeq (mSetIx (mKeep (mOp2 fNe (mVar 8) (mOp2 (iB fun i j => decide (j ≤ i)) (mVar 3) (mVar 1)))) (mVar 6) (mOp2 (iC (fun _ j => decide (0 < j)) fun i j => i % j) (mVar 3) (mVar 1)))
    (mSeq (mSet 4 (mX (mOp2 fIx (mVar 0) (mVar 3))))
    (mSeq (mSetIx (mKeep (mOp2 fNe (mVar 8) (mOp2 (iB fun i j => decide (j ≤ i)) (mVar 4) (mVar 1)))) (mVar 5) (mOp2 (iC (fun _ j => decide (0 < j)) fun i j => i % j) (mVar 4) (mVar 1)))
    (mSeq (mSet 9 (mX (mOp2 (iC (fun _ j => decide (0 < j)) fun i j => i % j) (mFz (mOpG fAdd (mVar 4) (mVar 1))) (mOp2 (iC mulC fun i j => i * j) (mC (.int 2)) (mVar 1)))))
    (mSeq (mPar2 3 8 (mPv (mX (mOp2 fIx (mVar 2) (mVar 9)))) (mPv (mX (mNotV (mVar 8)))))
    (mPar2 3 8 (mPv (mX (mOp2 (iC (fun _ j => decide (0 < j)) fun i j => i % j) (mFz (mOpG fAdd (mVar 3) (mVar 1))) (mOp2 (iC mulC fun i j => i * j) (mC (.int 2)) (mVar 1))))) (mPv (mX (mNotV (mVar 8))))))))))
def b3_coloured : MoS :=
  (mSeq (mPar2 3 8 (mPv (mX (mVar 7))) (mPv (mX (mC (.bl false)))))
    (mWhile t1_coloured
    b2_coloured [4, 9]))
def b4_coloured : MoS :=
  (mSetIx (mKeep (mVar 3)) (mVar 2) (mVar 4))
def m_coloured : MoS :=
  (mSeq (mSet 2 (mOpG fMul (mFz (mLst (mCons (mKeep (mC (.int 0))) mNil))) (mOp2 (iC mulC fun i j => i * j) (mC (.int 2)) (mVar 1))))
    (mSeq (mFor (mEnumK (mCons (mKeep (mVar 0)) mNil)) (gT 2 (gsC (gN 3) (gsC (gN 4) gsN)))
    b4_coloured [3, 4])
    (mSeq (mPar2 5 6 (mPv (mOpG fMul (mFz (mLst (mCons (mKeep (mC .non)) mNil))) (mVar 1))) (mPv (mOpG fMul (mFz (mLst (mCons (mKeep (mC .non)) mNil))) (mVar 1))))
    (mSeq (mFor (mRg1 (mCons (mKeep (mVar 1)) mNil)) (gN 7)
    b3_coloured [7, 3, 8, 4, 9])
    (mRet (mX (mTup (mCons (mKeep (mVar 5)) (mCons (mKeep (mVar 6)) mNil)))))))))
def F_coloured : Fm := fnM 10 m_coloured
theorem body_coloured {T : List (Addr × Str)} {P : Program} {w : World} {K : PySem.W.Frag} {mg : Str → Option Value} {base : Heap} (Z : Zs K mg)  (f : Addr) (cdv : Value) (A : Around) (outer : List Env) (s : Shared) (H : Hp) (B : Bs) (E : XK) (hr : L2.Room 0 (A.deeper (envOfC "coloured" (defScope s_coloured) s.heap.objs.size f cdv))) (nd : Fact' (["order", "half", "back", "at", "place", "first", "last", "start", "is_up", "other"] : List Str).Nodup) :
    SSE (cxD P w K mg base ["order", "half", "back", "at", "place", "first", "last", "start", "is_up", "other"] "coloured" (defScope s_coloured) f cdv A outer s H E) ⟨⟨K, mg, T⟩, (["order", "half", "back", "at", "place", "first", "last", "start", "is_up", "other"] : List Str).length, B, H⟩ (WD E) (defBody s_coloured) m_coloured := by
  have hu := hr.units
  have hu5 := hr.units5
  exact (sse_cons (st 2 (ge_op2 ok_mul (ee_fz (ge_lst (ae_cons (de_keep ee_int) ae_nil))) (ee_op2 ok_mulI ee_int (v 1))))
    (sse_cons (se_for (vs := [3, 4]) [3, 4] (ie_enumK rfl Z.z_enumerate (ae_cons (de_keep (v 0)) ae_nil)) (tg_tup (tgs_cons (tn 3) (tgs_cons (tn 4) tgs_nil)))
    (sse_one (se_setIx (de_keep (v 3)) (v 2) (v 4))))
    (sse_cons (se_par2 5 6 rfl rfl (by decide) rfl rfl (xe_of (ge_op2 ok_mul (ee_fz (ge_lst (ae_cons (de_keep ee_non) ae_nil))) (v 1))) (xe_of (ge_op2 ok_mul (ee_fz (ge_lst (ae_cons (de_keep ee_non) ae_nil))) (v 1))))
    (sse_cons (se_for (vs := [7]) [7, 3, 8, 4, 9] (ie_range1 rfl Z.z_range (ae_cons (de_keep (v 1)) ae_nil)) (tn 7)
    (sse_cons (se_par2 3 8 rfl rfl (by decide) rfl rfl (xe_of (ge_e (v 7))) (xe_of (ge_e ee_bl)))
    (sse_one (se_while [4, 9] (te_cmp ok_is (ee_ix (v 6) (ee_op2 ok_mod (v 3) (v 1))) ee_non (nomark _))
    (sse_cons (se_setIx (de_keep (ee_cmp (ok_ne hu) (v 8) (ee_cmp ok_ge (v 3) (v 1) (nomark _)) (nomark _))) (v 6) (ee_op2 ok_mod (v 3) (v 1)))
    (sse_cons (st 4 (ge_e (ee_ix (v 0) (v 3))))
    (sse_cons (se_setIx (de_keep (ee_cmp (ok_ne hu) (v 8) (ee_cmp ok_ge (v 4) (v 1) (nomark _)) (nomark _))) (v 5) (ee_op2 ok_mod (v 4) (v 1)))
    (sse_cons (st 9 (ge_e (ee_op2 ok_mod (ee_fz (ge_op2 ok_add (v 4) (v 1))) (ee_op2 ok_mulI ee_int (v 1)))))
    (sse_cons (se_par2 3 8 rfl rfl (by decide) rfl rfl (xe_of (ge_e (ee_ix (v 2) (v 9)))) (xe_of (ge_e (ee_not (v 8)))))
    (sse_one (se_par2 3 8 rfl rfl (by decide) rfl rfl (xe_of (ge_e (ee_op2 ok_mod (ee_fz (ge_op2 ok_add (v 3) (v 1))) (ee_op2 ok_mulI ee_int (v 1))))) (xe_of (ge_e (ee_not (v 8)))))))))))))))
    (sse_one (se_ret (ge_e (ee_tup (ae_cons (de_keep (v 5)) (ae_cons (de_keep (v 6)) ae_nil))))))))))
theorem cal_coloured {T : List (Addr × Str)} {P : Program} {w : World} {K : PySem.W.Frag} {mg : Str → Option Value} {base : Heap} (Dx : DefAt K mg "coloured" s_coloured ["order", "half"]) (Z : Zs K mg)  : Cal P w K mg base T "coloured" 2 F_coloured 1 :=
  have h : Cal P w K mg base T "coloured" (["order", "half"] : List Str).length (fnM (["order", "half", "back", "at", "place", "first", "last", "start", "is_up", "other"] : List Str).length m_coloured) (0 + 1) := cal_of Dx sc_coloured (by decide) (k := 0) (m := m_coloured) fun f fd cdv A outer s H B E hr nd => body_coloured Z  f cdv A outer s H B E hr nd
  h
abbrev s_mask_of : Stmt := topS 27
theorem sc_mask_of : FnScope ["flags", "at", "flag"] ["flags"] (defScope s_mask_of) := ⟨rfl, rfl, rfl, by decide +kernel, rfl, by decide +kernel, by decide +kernel⟩
def e1_mask_of : Mo D :=
  (mKeep (mOp2 (iC shlC fun i j => i * 2 ^ j.toNat) (mC (.int 1)) (mVar 1)))
def m_mask_of : MoS :=
  (mRet (mCB fSum (vCons (mFz (mLc (mEnumK (mCons (mKeep (mVar 0)) mNil)) (gT 2 (gsC (gN 1) (gsC (gN 2) gsN))) (mTest (mVar 2)) e1_mask_of [1, 2])) vNil)))
def F_mask_of : Fm := fnM 3 m_mask_of
theorem body_mask_of {T : List (Addr × Str)} {P : Program} {w : World} {K : PySem.W.Frag} {mg : Str → Option Value} {base : Heap} (Z : Zs K mg)  (f : Addr) (cdv : Value) (A : Around) (outer : List Env) (s : Shared) (H : Hp) (B : Bs) (E : XK) (hr : L2.Room 0 (A.deeper (envOfC "mask_of" (defScope s_mask_of) s.heap.objs.size f cdv))) (nd : Fact' (["flags", "at", "flag"] : List Str).Nodup) :
    SSE (cxD P w K mg base ["flags", "at", "flag"] "mask_of" (defScope s_mask_of) f cdv A outer s H E) ⟨⟨K, mg, T⟩, (["flags", "at", "flag"] : List Str).length, B, H⟩ (WD E) (defBody s_mask_of) m_mask_of := by
  have hu := hr.units
  have hu5 := hr.units5
  exact (sse_one (se_ret (ge_callB ok_sum rfl Z.z_sum (by decide +kernel) (ve_cons (ee_fz (ge_lc (own := [("at", 1), ("flag", 2)]) (ie_enumK rfl Z.z_enumerate (ae_cons (de_keep (v 0)) ae_nil)) (blkOk_by (by kernel_rfl)) (fun _ _ _ _ _ => (tg_tup (tgs_cons (tn 1) (tgs_cons (tn 2) tgs_nil)))) (fun _ _ _ _ _ => (tt_one (te_val (v 2)))) (fun _ _ _ _ _ => (de_keep (ee_op2 ok_shl ee_int (v 1)))))) ve_nil))))
theorem cal_mask_of {T : List (Addr × Str)} {P : Program} {w : World} {K : PySem.W.Frag} {mg : Str → Option Value} {base : Heap} (Dx : DefAt K mg "mask_of" s_mask_of ["flags"]) (Z : Zs K mg)  : Cal P w K mg base T "mask_of" 1 F_mask_of 1 :=
  have h : Cal P w K mg base T "mask_of" (["flags"] : List Str).length (fnM (["flags", "at", "flag"] : List Str).length m_mask_of) (0 + 1) := cal_of Dx sc_mask_of (by decide) (k := 0) (m := m_mask_of) fun f fd cdv A outer s H B E hr nd => body_mask_of Z  f cdv A outer s H B E hr nd
  h
abbrev s_routed : Stmt := topS 26
theorem sc_routed : FnScope ["order", "width", "half", "first", "last", "upper", "lower", "at", "place", "goes_up", "spot", "low", "high", "middle", "one", "other"] ["order", "width"] (defScope s_routed) := ⟨rfl, rfl, rfl, by decide +kernel, rfl, by decide +kernel, by decide +kernel⟩
def e1_routed (R : Fm) : Mo D :=
  (mKeep (mTup (mCons (mKeep (mOp2 (iI Builtin.bitOr) (mOp2 fIx (mVar 14) (mC (.int 0))) (mOp2 (iC shlC fun i j => i * 2 ^ j.toNat) (mOp2 fIx (mVar 15) (mC (.int 0))) (mVar 2)))) (mCons (mKeep (mOp2 fIx (mVar 14) (mC (.int 1)))) mNil))))
def b2_routed (R : Fm) : MoS :=
  (mSeq (mSet 9 (mX (mOp2 fNe (mOp2 fIx (mVar 4) (mOp2 (iC (fun _ j => decide (0 < j)) fun i j => i % j) (mVar 7) (mVar 2))) (mOp2 (iB fun i j => decide (j ≤ i)) (mVar 7) (mVar 2)))))
    (mSeq (mSet 10 (mX (mOp2 (iC (fun _ j => decide (0 < j)) fun i j => i % j) (mVar 8) (mVar 2))))
    (mIfS (mTest (mVar 9))
    (mSetIx (mKeep (mVar 10)) (mVar 5) (mOp2 (iC (fun _ j => decide (0 < j)) fun i j => i % j) (mVar 7) (mVar 2)))
    (mSetIx (mKeep (mVar 10)) (mVar 6) (mOp2 (iC (fun _ j => decide (0 < j)) fun i j => i % j) (mVar 7) (mVar 2))))))
def m_routed (R : Fm) : MoS :=
  (mSeq (mIfS (mTest (mOp2 fEq (mVar 1) (mC (.int 1))))
    (mRet (mLst mNil))
    mSkip)
    (mSeq (mIfS (mTest (mOp2 fEq (mVar 1) (mC (.int 2))))
    (mRet (mLst (mCons (mKeep (mTup (mCons (mKeep (mIf (mTest (mOp2 fEq (mOp2 fIx (mVar 0) (mC (.int 0))) (mC (.int 1)))) (mC (.int 1)) (mC (.int 0)))) (mCons (mKeep (mC (.int 1))) mNil)))) mNil)))
    mSkip)
    (mSeq (mSet 2 (mX (mOp2 (iC divC fun i j => i / j) (mVar 1) (mC (.int 2)))))
    (mSeq (mAsg (mKeepX (mCall F_coloured (mCons (mKeep (mVar 0)) (mCons (mKeep (mVar 2)) mNil)))) (gT 2 (gsC (gN 3) (gsC (gN 4) gsN))))
    (mSeq (mPar2 5 6 (mPv (mOpG fMul (mFz (mLst (mCons (mKeep (mC (.int 0))) mNil))) (mVar 2))) (mPv (mOpG fMul (mFz (mLst (mCons (mKeep (mC (.int 0))) mNil))) (mVar 2))))
    (mSeq (mFor (mEnumK (mCons (mKeep (mVar 0)) mNil)) (gT 2 (gsC (gN 7) (gsC (gN 8) gsN)))
    (b2_routed R) [7, 8, 9, 10])
    (mSeq (mPar2 11 12 (mPv (mCall R (mCons (mKeep (mVar 6)) (mCons (mKeep (mVar 2)) mNil)))) (mPv (mCall R (mCons (mKeep (mVar 5)) (mCons (mKeep (mVar 2)) mNil)))))
    (mSeq (mSet 13 (mLc (mZip2 (mCons (mKeep (mVar 11)) (mCons (mKeep (mVar 12)) mNil))) (gT 2 (gsC (gN 14) (gsC (gN 15) gsN))) mYes (e1_routed R) [14, 15]))
    (mRet (mOpG fAdd (mFz (mOpG fAdd (mFz (mLst (mCons (mKeep (mTup (mCons (mKeepX (mCall F_mask_of (mCons (mKeep (mVar 3)) mNil))) (mCons (mKeep (mVar 2)) mNil)))) mNil))) (mVar 13))) (mFz (mLst (mCons (mKeep (mTup (mCons (mKeepX (mCall F_mask_of (mCons (mKeep (mVar 4)) mNil))) (mCons (mKeep (mVar 2)) mNil)))) mNil)))))))))))))
def Fr_routed : Nat → Fm | 0 => fnM 16 mBad | n + 1 => fnM 16 (m_routed (Fr_routed n))
def F_routed : Fm := Fr_routed 6
theorem body_routed {T : List (Addr × Str)} {P : Program} {w : World} {K : PySem.W.Frag} {mg : Str → Option Value} {base : Heap} (Z : Zs K mg) (G_mask_of : Cal P w K mg base T "mask_of" 1 F_mask_of 1) (G_coloured : Cal P w K mg base T "coloured" 2 F_coloured 1) (R : Fm) (n : Nat) (G_routed : Cal P w K mg base T "routed" 2 R (2 + n)) (f : Addr) (cdv : Value) (A : Around) (outer : List Env) (s : Shared) (H : Hp) (B : Bs) (E : XK) (hr : L2.Room (2 + n) (A.deeper (envOfC "routed" (defScope s_routed) s.heap.objs.size f cdv))) (nd : Fact' (["order", "width", "half", "first", "last", "upper", "lower", "at", "place", "goes_up", "spot", "low", "high", "middle", "one", "other"] : List Str).Nodup) :
    SSE (cxD P w K mg base ["order", "width", "half", "first", "last", "upper", "lower", "at", "place", "goes_up", "spot", "low", "high", "middle", "one", "other"] "routed" (defScope s_routed) f cdv A outer s H E) ⟨⟨K, mg, T⟩, (["order", "width", "half", "first", "last", "upper", "lower", "at", "place", "goes_up", "spot", "low", "high", "middle", "one", "other"] : List Str).length, B, H⟩ (WD E) (defBody s_routed) (m_routed R) := by
  have hu := hr.units
  have hu5 := hr.units5
  exact (sse_cons (se_if (te_cmp (ok_eq hu) (v 1) ee_int (nomark _))
    (sse_one (se_ret (ge_lst ae_nil)))
    sse_nil)
    (sse_cons (se_if (te_cmp (ok_eq hu) (v 1) ee_int (nomark _))
    (sse_one (se_ret (ge_lst (ae_cons (de_keep (ee_tup (ae_cons (de_keep (ee_if (te_cmp (ok_eq hu) (ee_ix (v 0) ee_int) ee_int (nomark _)) ee_int ee_int)) (ae_cons (de_keep ee_int) ae_nil)))) ae_nil))))
    sse_nil)
    (sse_cons (st 2 (ge_e (ee_op2 ok_div (v 1) ee_int)))
    (sse_cons (se_asg (vs := [3, 4]) (de_keepX (ge_call (G_coloured.k hr (by omega)) rfl (ae_cons (de_keep (v 0)) (ae_cons (de_keep (v 2)) ae_nil)) rfl (hms := (mCons_len (mCons_len mNil_len))))) (tg_tup (tgs_cons (tn 3) (tgs_cons (tn 4) tgs_nil))))
    (sse_cons (se_par2 5 6 rfl rfl (by decide) rfl rfl (xe_of (ge_op2 ok_mul (ee_fz (ge_lst (ae_cons (de_keep ee_int) ae_nil))) (v 2))) (xe_of (ge_op2 ok_mul (ee_fz (ge_lst (ae_cons (de_keep ee_int) ae_nil))) (v 2))))
    (sse_cons (se_for (vs := [7, 8]) [7, 8, 9, 10] (ie_enumK rfl Z.z_enumerate (ae_cons (de_keep (v 0)) ae_nil)) (tg_tup (tgs_cons (tn 7) (tgs_cons (tn 8) tgs_nil)))
    (sse_cons (st 9 (ge_e (ee_cmp (ok_ne hu) (ee_ix (v 4) (ee_op2 ok_mod (v 7) (v 2))) (ee_cmp ok_ge (v 7) (v 2) (nomark _)) (nomark _))))
    (sse_cons (st 10 (ge_e (ee_op2 ok_mod (v 8) (v 2))))
    (sse_one (se_if (te_val (v 9))
    (sse_one (se_setIx (de_keep (v 10)) (v 5) (ee_op2 ok_mod (v 7) (v 2))))
    (sse_one (se_setIx (de_keep (v 10)) (v 6) (ee_op2 ok_mod (v 7) (v 2)))))))))
    (sse_cons (se_par2 11 12 rfl rfl (by decide) rfl rfl (xe_of (ge_call (G_routed.k hr (by omega)) rfl (ae_cons (de_keep (v 6)) (ae_cons (de_keep (v 2)) ae_nil)) rfl (hms := (mCons_len (mCons_len mNil_len))))) (xe_of (ge_call (G_routed.k hr (by omega)) rfl (ae_cons (de_keep (v 5)) (ae_cons (de_keep (v 2)) ae_nil)) rfl (hms := (mCons_len (mCons_len mNil_len))))))
    (sse_cons (se_setLc 13 (own := [("one", 14), ("other", 15)]) rfl rfl (sw_true rfl rfl rfl (by decide +kernel)) (ie_zip2 rfl Z.z_zip (ae_cons (de_keep (v 11)) (ae_cons (de_keep (v 12)) ae_nil))) (blkOk_by (by kernel_rfl)) (fun _ _ _ _ _ => (tg_tup (tgs_cons (tn 14) (tgs_cons (tn 15) tgs_nil)))) (fun _ _ _ _ _ => tt_nil) (fun _ _ _ _ _ => (de_keep (ee_tup (ae_cons (de_keep (ee_op2 ok_or (ee_ix (v 14) ee_int) (ee_op2 ok_shl (ee_ix (v 15) ee_int) (v 2)))) (ae_cons (de_keep (ee_ix (v 14) ee_int)) ae_nil))))))
    (sse_one (se_ret (ge_op2 ok_add (ee_fz (ge_op2 ok_add (ee_fz (ge_lst (ae_cons (de_keep (ee_tup (ae_cons (de_keepX (ge_call (G_mask_of.k hr (by omega)) rfl (ae_cons (de_keep (v 3)) ae_nil) rfl (hms := (mCons_len mNil_len)))) (ae_cons (de_keep (v 2)) ae_nil)))) ae_nil))) (v 13))) (ee_fz (ge_lst (ae_cons (de_keep (ee_tup (ae_cons (de_keepX (ge_call (G_mask_of.k hr (by omega)) rfl (ae_cons (de_keep (v 4)) ae_nil) rfl (hms := (mCons_len mNil_len)))) (ae_cons (de_keep (v 2)) ae_nil)))) ae_nil))))))))))))))
theorem calR_routed {T : List (Addr × Str)} {P : Program} {w : World} {K : PySem.W.Frag} {mg : Str → Option Value} {base : Heap} (Dx : DefAt K mg "routed" s_routed ["order", "width"]) (Z : Zs K mg) (G_mask_of : Cal P w K mg base T "mask_of" 1 F_mask_of 1) (G_coloured : Cal P w K mg base T "coloured" 2 F_coloured 1) : ∀ n, Cal P w K mg base T "routed" 2 (Fr_routed n) (2 + n)
  | 0 => cal_bad (x := "routed") (st := s_routed) (N := ["order", "width", "half", "first", "last", "upper", "lower", "at", "place", "goes_up", "spot", "low", "high", "middle", "one", "other"]) (ps := ["order", "width"]) Dx sc_routed (by decide) 1
  | n + 1 => have h : Cal P w K mg base T "routed" (["order", "width"] : List Str).length (fnM (["order", "width", "half", "first", "last", "upper", "lower", "at", "place", "goes_up", "spot", "low", "high", "middle", "one", "other"] : List Str).length (m_routed (Fr_routed n))) (2 + n + 1) := cal_of Dx sc_routed (by decide) (k := 2 + n) (m := m_routed (Fr_routed n)) fun f fd cdv A outer s H B E hr nd => body_routed Z G_mask_of G_coloured (Fr_routed n) n (calR_routed Dx Z G_mask_of G_coloured n) f cdv A outer s H B E hr nd
    h
theorem cal_routed {T : List (Addr × Str)} {P : Program} {w : World} {K : PySem.W.Frag} {mg : Str → Option Value} {base : Heap} (Dx : DefAt K mg "routed" s_routed ["order", "width"]) (Z : Zs K mg) (G_mask_of : Cal P w K mg base T "mask_of" 1 F_mask_of 1) (G_coloured : Cal P w K mg base T "coloured" 2 F_coloured 1) : Cal P w K mg base T "routed" 2 F_routed 8 := calR_routed Dx Z G_mask_of G_coloured 6
abbrev s_levels_for : Stmt := topS 25
theorem sc_levels_for : FnScope ["width", "order", "pair"] ["width", "order"] (defScope s_levels_for) := ⟨rfl, rfl, rfl, by decide +kernel, rfl, by decide +kernel, by decide +kernel⟩
def t1_levels_for : Mo Bool :=
  (mTest (mOp2 (iB fun i j => decide (j < i)) (mOp2 fIx (mVar 2) (mC (.int 0))) (mC (.int 0))))
def m_levels_for : MoS :=
  (mSeq (mDrop (mCall F_check_order (mCons (mKeep (mVar 0)) (mCons (mKeep (mVar 1)) mNil))))
    (mSeq (mIfS (mTest (mOp2 fNe (mOp2 (iI Builtin.bitAnd) (mVar 0) (mOp2 (iI fun i j => i - j) (mVar 0) (mC (.int 1)))) (mC (.int 0))))
    mBad
    mSkip)
    (mRet (mCB fTuple (vCons (mFz (mLc (mIt (mKeepX (mCall F_routed (mCons (mKeepX (mCB fList (vCons (mVar 1) vNil))) (mCons (mKeep (mVar 0)) mNil))))) (gN 2) t1_levels_for (mKeep (mVar 2)) [2])) vNil)))))
def F_levels_for : Fm := fnM 3 m_levels_for
theorem body_levels_for {T : List (Addr × Str)} {P : Program} {w : World} {K : PySem.W.Frag} {mg : Str → Option Value} {base : Heap} (Z : Zs K mg) (G_routed : Cal P w K mg base T "routed" 2 F_routed 8) (G_check_order : Cal P w K mg base T "check_order" 2 F_check_order 5) (f : Addr) (cdv : Value) (A : Around) (outer : List Env) (s : Shared) (H : Hp) (B : Bs) (E : XK) (hr : L2.Room 8 (A.deeper (envOfC "levels_for" (defScope s_levels_for) s.heap.objs.size f cdv))) (nd : Fact' (["width", "order", "pair"] : List Str).Nodup) :
    SSE (cxD P w K mg base ["width", "order", "pair"] "levels_for" (defScope s_levels_for) f cdv A outer s H E) ⟨⟨K, mg, T⟩, (["width", "order", "pair"] : List Str).length, B, H⟩ (WD E) (defBody s_levels_for) m_levels_for := by
  have hu := hr.units
  have hu5 := hr.units5
  exact (sse_cons (se_expr (ge_call (G_check_order.k hr (by decide)) rfl (ae_cons (de_keep (v 0)) (ae_cons (de_keep (v 1)) ae_nil)) rfl (hms := (mCons_len (mCons_len mNil_len)))))
    (sse_cons (se_if (te_cmp (ok_ne hu) (ee_op2 ok_and (v 0) (ee_op2 ok_sub (v 0) ee_int)) ee_int (nomark _))
    (sse_one se_bad)
    sse_nil)
    (sse_one (se_ret (ge_callTy ok_tuple rfl Z.z_tuple (by decide +kernel) (ve_cons (ee_fz (ge_lc (own := [("pair", 2)]) (ie_seq (de_keepX (ge_call (G_routed.k hr (by decide)) rfl (ae_cons (de_keepX (ge_callTy ok_list rfl Z.z_list (by decide +kernel) (ve_cons (v 1) ve_nil))) (ae_cons (de_keep (v 0)) ae_nil)) rfl (hms := (mCons_len (mCons_len mNil_len)))))) (blkOk_by (by kernel_rfl)) (fun _ _ _ _ _ => (tn 2)) (fun _ _ _ _ _ => (tt_one (te_cmp ok_gt (ee_ix (v 2) ee_int) ee_int (nomark _)))) (fun _ _ _ _ _ => (de_keep (v 2))))) ve_nil))))))
theorem cal_levels_for {T : List (Addr × Str)} {P : Program} {w : World} {K : PySem.W.Frag} {mg : Str → Option Value} {base : Heap} (Dx : DefAt K mg "levels_for" s_levels_for ["width", "order"]) (Z : Zs K mg) (G_routed : Cal P w K mg base T "routed" 2 F_routed 8) (G_check_order : Cal P w K mg base T "check_order" 2 F_check_order 5) : Cal P w K mg base T "levels_for" 2 F_levels_for 9 :=
  have h : Cal P w K mg base T "levels_for" (["width", "order"] : List Str).length (fnM (["width", "order", "pair"] : List Str).length m_levels_for) (8 + 1) := cal_of Dx sc_levels_for (by decide) (k := 8) (m := m_levels_for) fun f fd cdv A outer s H B E hr nd => body_levels_for Z G_routed G_check_order f cdv A outer s H B E hr nd
  h
abbrev s_are_levels : Stmt := topS 29
theorem sc_are_levels : FnScope ["width", "thing", "mask", "steps", "pair"] ["width", "thing"] (defScope s_are_levels) := ⟨rfl, rfl, rfl, by decide +kernel, rfl, by decide +kernel, by decide +kernel⟩
def b1_are_levels : MoS :=
  (mSeq (mIfS (mOr (mNot (mTest (mFz (mCall F_is_within (mCons (mKeep (mVar 3)) (mCons (mKeep (mC (.int 1))) (mCons (mKeep (mVar 0)) mNil))))))) (mNot (mTest (mFz (mCall F_is_within (mCons (mKeep (mVar 2)) (mCons (mKeep (mC (.int 0))) (mCons (mKeep (mOp2 (iI fun i j => i - j) (mOp2 (iC shlC fun i j => i * 2 ^ j.toNat) (mC (.int 1)) (mVar 0)) (mC (.int 1)))) mNil))))))))
    (mRet (mX (mC (.bl false))))
    mSkip)
    (mIfS (mOr (mTest (mOp2 (iB fun i j => decide (j < i)) (mOp2 (iC (fun _ j => decide (0 ≤ j)) fun i j => i / 2 ^ j.toNat) (mOp2 (iC shlC fun i j => i * 2 ^ j.toNat) (mVar 2) (mVar 3)) (mVar 0)) (mC (.int 0)))) (mTest (mOp2 fNe (mOp2 (iI Builtin.bitAnd) (mVar 2) (mOp2 (iC shlC fun i j => i * 2 ^ j.toNat) (mVar 2) (mVar 3))) (mC (.int 0)))))
    (mRet (mX (mC (.bl false))))
    mSkip))
def e2_are_levels : Mo D :=
  (mKeepX (mCall F_is_tuple_of (mCons (mKeep (mVar 4)) (mCons (mKeep (mC (.int 2))) mNil))))
def m_are_levels : MoS :=
  (mSeq (mDrop (mCall F_check_width (mCons (mKeep (mVar 0)) mNil)))
    (mSeq (mIfS (mOr (mNot (mTest (mIsi .tup (mVar 1)))) (mOr (mTest (mOp2 (iB fun i j => decide (j < i)) (mFz (mCB fLen (vCons (mVar 1) vNil))) (mC (.int 100)))) (mNot (mTest (mFz (mCB fAll (vCons (mFz (mLc (mIt (mKeep (mVar 1))) (gN 4) mYes e2_are_levels [4])) vNil)))))))
    (mRet (mX (mC (.bl false))))
    mSkip)
    (mSeq (mFor (mIt (mKeep (mVar 1))) (gT 2 (gsC (gN 2) (gsC (gN 3) gsN)))
    b1_are_levels [2, 3])
    (mRet (mX (mC (.bl true)))))))
def F_are_levels : Fm := fnM 5 m_are_levels
theorem body_are_levels {T : List (Addr × Str)} {P : Program} {w : World} {K : PySem.W.Frag} {mg : Str → Option Value} {base : Heap} (Z : Zs K mg) (G_is_within : Cal P w K mg base T "is_within" 3 F_is_within 2) (G_is_tuple_of : Cal P w K mg base T "is_tuple_of" 2 F_is_tuple_of 1) (G_check_width : Cal P w K mg base T "check_width" 1 F_check_width 3) (f : Addr) (cdv : Value) (A : Around) (outer : List Env) (s : Shared) (H : Hp) (B : Bs) (E : XK) (hr : L2.Room 3 (A.deeper (envOfC "are_levels" (defScope s_are_levels) s.heap.objs.size f cdv))) (nd : Fact' (["width", "thing", "mask", "steps", "pair"] : List Str).Nodup) :
    SSE (cxD P w K mg base ["width", "thing", "mask", "steps", "pair"] "are_levels" (defScope s_are_levels) f cdv A outer s H E) ⟨⟨K, mg, T⟩, (["width", "thing", "mask", "steps", "pair"] : List Str).length, B, H⟩ (WD E) (defBody s_are_levels) m_are_levels := by
  have hu := hr.units
  have hu5 := hr.units5
  exact (sse_cons (se_expr (ge_call (G_check_width.k hr (by decide)) rfl (ae_cons (de_keep (v 0)) ae_nil) rfl (hms := (mCons_len mNil_len))))
    (sse_cons (se_if (te_w (we_or (te_not (te_val (ee_isi .tup (by decide) rfl Z.z_isinstance (by decide +kernel) (v 1) rfl Z.z_tuple (by decide +kernel)))) (we_or (te_cmp ok_gt (ee_fz (ge_callB ok_len rfl Z.z_len (by decide +kernel) (ve_cons (v 1) ve_nil))) ee_int (nomark _)) (we_or1 (te_not (te_val (ee_fz (ge_callB ok_all rfl Z.z_all (by decide +kernel) (ve_cons (ee_fz (ge_lc (own := [("pair", 4)]) (ie_seq (de_keep (v 1))) (blkOk_by (by kernel_rfl)) (fun _ _ _ _ _ => (tn 4)) (fun _ _ _ _ _ => tt_nil) (fun _ _ _ _ _ => (de_keepX (ge_call (fnkB (G_is_tuple_of.k hr (by decide))) rfl (ae_cons (de_keep (v 4)) (ae_cons (de_keep ee_int) ae_nil)) rfl (hms := (mCons_len (mCons_len mNil_len)))))))) ve_nil)))))))))
    (sse_one (se_ret (ge_e ee_bl)))
    sse_nil)
    (sse_cons (se_for (vs := [2, 3]) [2, 3] (ie_seq (de_keep (v 1))) (tg_tup (tgs_cons (tn 2) (tgs_cons (tn 3) tgs_nil)))
    (sse_cons (se_if (te_w (we_or (te_not (te_val (ee_fz (ge_call (G_is_within.k hr (by decide)) rfl (ae_cons (de_keep (v 3)) (ae_cons (de_keep ee_int) (ae_cons (de_keep (v 0)) ae_nil))) rfl (hms := (mCons_len (mCons_len (mCons_len mNil_len)))))))) (we_or1 (te_not (te_val (ee_fz (ge_call (G_is_within.k hr (by decide)) rfl (ae_cons (de_keep (v 2)) (ae_cons (de_keep ee_int) (ae_cons (de_keep (ee_op2 ok_sub (ee_op2 ok_shl ee_int (v 0)) ee_int)) ae_nil))) rfl (hms := (mCons_len (mCons_len (mCons_len mNil_len)))))))))))
    (sse_one (se_ret (ge_e ee_bl)))
    sse_nil)
    (sse_one (se_if (te_w (we_or (te_cmp ok_gt (ee_op2 ok_shr (ee_op2 ok_shl (v 2) (v 3)) (v 0)) ee_int (nomark _)) (we_or1 (te_cmp (ok_ne hu) (ee_op2 ok_and (v 2) (ee_op2 ok_shl (v 2) (v 3))) ee_int (nomark _)))))
    (sse_one (se_ret (ge_e ee_bl)))
    sse_nil))))
    (sse_one (se_ret (ge_e ee_bl))))))
theorem cal_are_levels {T : List (Addr × Str)} {P : Program} {w : World} {K : PySem.W.Frag} {mg : Str → Option Value} {base : Heap} (Dx : DefAt K mg "are_levels" s_are_levels ["width", "thing"]) (Z : Zs K mg) (G_is_within : Cal P w K mg base T "is_within" 3 F_is_within 2) (G_is_tuple_of : Cal P w K mg base T "is_tuple_of" 2 F_is_tuple_of 1) (G_check_width : Cal P w K mg base T "check_width" 1 F_check_width 3) : Cal P w K mg base T "are_levels" 2 F_are_levels 4 :=
  have h : Cal P w K mg base T "are_levels" (["width", "thing"] : List Str).length (fnM (["width", "thing", "mask", "steps", "pair"] : List Str).length m_are_levels) (3 + 1) := cal_of Dx sc_are_levels (by decide) (k := 3) (m := m_are_levels) fun f fd cdv A outer s H B E hr nd => body_are_levels Z G_is_within G_is_tuple_of G_check_width f cdv A outer s H B E hr nd
  h
abbrev s_order_of_levels : Stmt := topS 30
theorem sc_order_of_levels : FnScope ["width", "levels", "row", "mask", "steps", "place"] ["width", "levels"] (defScope s_order_of_levels) := ⟨rfl, rfl, rfl, by decide +kernel, rfl, by decide +kernel, by decide +kernel⟩
def b1_order_of_levels : MoS :=
  (mIfS (mTest (mOp2 fEq (mOp2 (iI Builtin.bitAnd) (mOp2 (iC (fun _ j => decide (0 ≤ j)) fun i j => i / 2 ^ j.toNat) (mVar 3) (mVar 5)) (mC (.int 1))) (mC (.int 1))))
    (mAsg (mKeep (mTup (mCons (mKeep (mOp2 fIx (mVar 2) (mOp2 (iI fun i j => i + j) (mVar 5) (mVar 4)))) (mCons (mKeep (mOp2 fIx (mVar 2) (mVar 5))) mNil)))) (gT 2 (gsC (gS (mVar 2) (mVar 5)) (gsC (gS (mVar 2) (mOp2 (iI fun i j => i + j) (mVar 5) (mVar 4))) gsN))))
    mSkip)
def b2_order_of_levels : MoS :=
  (mFor (mRg1 (mCons (mKeep (mVar 0)) mNil)) (gN 5)
    b1_order_of_levels [5])
def m_order_of_levels : MoS :=
  (mSeq (mIfS (mNot (mTest (mFz (mCall F_are_levels (mCons (mKeep (mVar 0)) (mCons (mKeep (mVar 1)) mNil))))))
    mBad
    mSkip)
    (mSeq (mSet 2 (mLR (mRa1 (mCons (mKeep (mVar 0)) mNil))))
    (mSeq (mFor (mIt (mKeep (mVar 1))) (gT 2 (gsC (gN 3) (gsC (gN 4) gsN)))
    b2_order_of_levels [3, 4, 5])
    (mRet (mCB fTuple (vCons (mVar 2) vNil))))))
def F_order_of_levels : Fm := fnM 6 m_order_of_levels
theorem body_order_of_levels {T : List (Addr × Str)} {P : Program} {w : World} {K : PySem.W.Frag} {mg : Str → Option Value} {base : Heap} (Z : Zs K mg) (G_are_levels : Cal P w K mg base T "are_levels" 2 F_are_levels 4) (f : Addr) (cdv : Value) (A : Around) (outer : List Env) (s : Shared) (H : Hp) (B : Bs) (E : XK) (hr : L2.Room 4 (A.deeper (envOfC "order_of_levels" (defScope s_order_of_levels) s.heap.objs.size f cdv))) (nd : Fact' (["width", "levels", "row", "mask", "steps", "place"] : List Str).Nodup) :
    SSE (cxD P w K mg base ["width", "levels", "row", "mask", "steps", "place"] "order_of_levels" (defScope s_order_of_levels) f cdv A outer s H E) ⟨⟨K, mg, T⟩, (["width", "levels", "row", "mask", "steps", "place"] : List Str).length, B, H⟩ (WD E) (defBody s_order_of_levels) m_order_of_levels := by
  have hu := hr.units
  have hu5 := hr.units5
  exact (sse_cons (se_if (te_not (te_val (ee_fz (ge_call (G_are_levels.k hr (by decide)) rfl (ae_cons (de_keep (v 0)) (ae_cons (de_keep (v 1)) ae_nil)) rfl (hms := (mCons_len (mCons_len mNil_len)))))))
    (sse_one se_bad)
    sse_nil)
    (sse_cons (st 2 (ge_listR rfl Z.z_list (re_1 rfl Z.z_range (ae_cons (de_keep (v 0)) ae_nil))))
    (sse_cons (se_for (vs := [3, 4]) [3, 4, 5] (ie_seq (de_keep (v 1))) (tg_tup (tgs_cons (tn 3) (tgs_cons (tn 4) tgs_nil)))
    (sse_one (se_for (vs := [5]) [5] (ie_range1 rfl Z.z_range (ae_cons (de_keep (v 0)) ae_nil)) (tn 5)
    (sse_one (se_if (te_cmp (ok_eq hu) (ee_op2 ok_and (ee_op2 ok_shr (v 3) (v 5)) ee_int) ee_int (nomark _))
    (sse_one (se_asg (vs := []) (de_keep (ee_tup (ae_cons (de_keep (ee_ix (v 2) (ee_op2 ok_addI (v 5) (v 4)))) (ae_cons (de_keep (ee_ix (v 2) (v 5))) ae_nil)))) (tg_tup (tgs_cons (tg_sub (v 2) (v 5)) (tgs_cons (tg_sub (v 2) (ee_op2 ok_addI (v 5) (v 4))) tgs_nil)))))
    sse_nil)))))
    (sse_one (se_ret (ge_callTy ok_tuple rfl Z.z_tuple (by decide +kernel) (ve_cons (v 2) ve_nil)))))))
theorem cal_order_of_levels {T : List (Addr × Str)} {P : Program} {w : World} {K : PySem.W.Frag} {mg : Str → Option Value} {base : Heap} (Dx : DefAt K mg "order_of_levels" s_order_of_levels ["width", "levels"]) (Z : Zs K mg) (G_are_levels : Cal P w K mg base T "are_levels" 2 F_are_levels 4) : Cal P w K mg base T "order_of_levels" 2 F_order_of_levels 5 :=
  have h : Cal P w K mg base T "order_of_levels" (["width", "levels"] : List Str).length (fnM (["width", "levels", "row", "mask", "steps", "place"] : List Str).length m_order_of_levels) (4 + 1) := cal_of Dx sc_order_of_levels (by decide) (k := 4) (m := m_order_of_levels) fun f fd cdv A outer s H B E hr nd => body_order_of_levels Z G_are_levels f cdv A outer s H B E hr nd
  h
abbrev s_by_levels : Stmt := topS 31
theorem sc_by_levels : FnScope ["width", "levels", "word", "mask", "steps"] ["width", "levels", "word"] (defScope s_by_levels) := ⟨rfl, rfl, rfl, by decide +kernel, rfl, by decide +kernel, by decide +kernel⟩
def b1_by_levels : MoS :=
  (mSet 2 (mCall F_swapped (mCons (mKeep (mVar 2)) (mCons (mKeep (mVar 3)) (mCons (mKeep (mVar 4)) mNil)))))
def m_by_levels : MoS :=
  (mSeq (mDrop (mCall F_check_word (mCons (mKeep (mVar 0)) (mCons (mKeep (mVar 2)) mNil))))
    (mSeq (mIfS (mNot (mTest (mFz (mCall F_are_levels (mCons (mKeep (mVar 0)) (mCons (mKeep (mVar 1)) mNil))))))
    mBad
    mSkip)
    (mSeq (mFor (mIt (mKeep (mVar 1))) (gT 2 (gsC (gN 3) (gsC (gN 4) gsN)))
    b1_by_levels [3, 4])
    (mRet (mX (mVar 2))))))
def F_by_levels : Fm := fnM 5 m_by_levels
theorem body_by_levels {T : List (Addr × Str)} {P : Program} {w : World} {K : PySem.W.Frag} {mg : Str → Option Value} {base : Heap} (Z : Zs K mg) (G_swapped : Cal P w K mg base T "swapped" 3 F_swapped 1) (G_are_levels : Cal P w K mg base T "are_levels" 2 F_are_levels 4) (G_check_word : Cal P w K mg base T "check_word" 2 F_check_word 5) (f : Addr) (cdv : Value) (A : Around) (outer : List Env) (s : Shared) (H : Hp) (B : Bs) (E : XK) (hr : L2.Room 5 (A.deeper (envOfC "by_levels" (defScope s_by_levels) s.heap.objs.size f cdv))) (nd : Fact' (["width", "levels", "word", "mask", "steps"] : List Str).Nodup) :
    SSE (cxD P w K mg base ["width", "levels", "word", "mask", "steps"] "by_levels" (defScope s_by_levels) f cdv A outer s H E) ⟨⟨K, mg, T⟩, (["width", "levels", "word", "mask", "steps"] : List Str).length, B, H⟩ (WD E) (defBody s_by_levels) m_by_levels := by
  have hu := hr.units
  have hu5 := hr.units5
  exact (sse_cons (se_expr (ge_call (G_check_word.k hr (by decide)) rfl (ae_cons (de_keep (v 0)) (ae_cons (de_keep (v 2)) ae_nil)) rfl (hms := (mCons_len (mCons_len mNil_len)))))
    (sse_cons (se_if (te_not (te_val (ee_fz (ge_call (G_are_levels.k hr (by decide)) rfl (ae_cons (de_keep (v 0)) (ae_cons (de_keep (v 1)) ae_nil)) rfl (hms := (mCons_len (mCons_len mNil_len)))))))
    (sse_one se_bad)
    sse_nil)
    (sse_cons (se_for (vs := [3, 4]) [3, 4] (ie_seq (de_keep (v 1))) (tg_tup (tgs_cons (tn 3) (tgs_cons (tn 4) tgs_nil)))
    (sse_one (st 2 (ge_call (G_swapped.k hr (by decide)) rfl (ae_cons (de_keep (v 2)) (ae_cons (de_keep (v 3)) (ae_cons (de_keep (v 4)) ae_nil))) rfl (hms := (mCons_len (mCons_len (mCons_len mNil_len))))))))
    (sse_one (se_ret (ge_e (v 2)))))))
theorem cal_by_levels {T : List (Addr × Str)} {P : Program} {w : World} {K : PySem.W.Frag} {mg : Str → Option Value} {base : Heap} (Dx : DefAt K mg "by_levels" s_by_levels ["width", "levels", "word"]) (Z : Zs K mg) (G_swapped : Cal P w K mg base T "swapped" 3 F_swapped 1) (G_are_levels : Cal P w K mg base T "are_levels" 2 F_are_levels 4) (G_check_word : Cal P w K mg base T "check_word" 2 F_check_word 5) : Cal P w K mg base T "by_levels" 3 F_by_levels 6 :=
  have h : Cal P w K mg base T "by_levels" (["width", "levels", "word"] : List Str).length (fnM (["width", "levels", "word", "mask", "steps"] : List Str).length m_by_levels) (5 + 1) := cal_of Dx sc_by_levels (by decide) (k := 5) (m := m_by_levels) fun f fd cdv A outer s H B E hr nd => body_by_levels Z G_swapped G_are_levels G_check_word f cdv A outer s H B E hr nd
  h
abbrev s_are_levels_for : Stmt := topS 32
theorem sc_are_levels_for : FnScope ["width", "order", "thing"] ["width", "order", "thing"] (defScope s_are_levels_for) := ⟨rfl, rfl, rfl, by decide +kernel, rfl, by decide +kernel, by decide +kernel⟩
def m_are_levels_for : MoS :=
  (mSeq (mDrop (mCall F_check_order (mCons (mKeep (mVar 0)) (mCons (mKeep (mVar 1)) mNil))))
    (mRet (mX (mAndV (mFz (mCall F_are_levels (mCons (mKeep (mVar 0)) (mCons (mKeep (mVar 2)) mNil)))) (mOp2 fEq (mFz (mCall F_order_of_levels (mCons (mKeep (mVar 0)) (mCons (mKeep (mVar 2)) mNil)))) (mVar 1))))))
def F_are_levels_for : Fm := fnM 3 m_are_levels_for
theorem body_are_levels_for {T : List (Addr × Str)} {P : Program} {w : World} {K : PySem.W.Frag} {mg : Str → Option Value} {base : Heap} (Z : Zs K mg) (G_are_levels : Cal P w K mg base T "are_levels" 2 F_are_levels 4) (G_order_of_levels : Cal P w K mg base T "order_of_levels" 2 F_order_of_levels 5) (G_check_order : Cal P w K mg base T "check_order" 2 F_check_order 5) (f : Addr) (cdv : Value) (A : Around) (outer : List Env) (s : Shared) (H : Hp) (B : Bs) (E : XK) (hr : L2.Room 5 (A.deeper (envOfC "are_levels_for" (defScope s_are_levels_for) s.heap.objs.size f cdv))) (nd : Fact' (["width", "order", "thing"] : List Str).Nodup) :
    SSE (cxD P w K mg base ["width", "order", "thing"] "are_levels_for" (defScope s_are_levels_for) f cdv A outer s H E) ⟨⟨K, mg, T⟩, (["width", "order", "thing"] : List Str).length, B, H⟩ (WD E) (defBody s_are_levels_for) m_are_levels_for := by
  have hu := hr.units
  have hu5 := hr.units5
  exact (sse_cons (se_expr (ge_call (G_check_order.k hr (by decide)) rfl (ae_cons (de_keep (v 0)) (ae_cons (de_keep (v 1)) ae_nil)) rfl (hms := (mCons_len (mCons_len mNil_len)))))
    (sse_one (se_ret (ge_e (ee_and (ee_fz (ge_call (G_are_levels.k hr (by decide)) rfl (ae_cons (de_keep (v 0)) (ae_cons (de_keep (v 2)) ae_nil)) rfl (hms := (mCons_len (mCons_len mNil_len))))) (ee_one (ee_cmp (ok_eq hu) (ee_fz (ge_call (G_order_of_levels.k hr (by decide)) rfl (ae_cons (de_keep (v 0)) (ae_cons (de_keep (v 2)) ae_nil)) rfl (hms := (mCons_len (mCons_len mNil_len))))) (v 1) (nomark _))))))))
theorem cal_are_levels_for {T : List (Addr × Str)} {P : Program} {w : World} {K : PySem.W.Frag} {mg : Str → Option Value} {base : Heap} (Dx : DefAt K mg "are_levels_for" s_are_levels_for ["width", "order", "thing"]) (Z : Zs K mg) (G_are_levels : Cal P w K mg base T "are_levels" 2 F_are_levels 4) (G_order_of_levels : Cal P w K mg base T "order_of_levels" 2 F_order_of_levels 5) (G_check_order : Cal P w K mg base T "check_order" 2 F_check_order 5) : Cal P w K mg base T "are_levels_for" 3 F_are_levels_for 6 :=
  have h : Cal P w K mg base T "are_levels_for" (["width", "order", "thing"] : List Str).length (fnM (["width", "order", "thing"] : List Str).length m_are_levels_for) (5 + 1) := cal_of Dx sc_are_levels_for (by decide) (k := 5) (m := m_are_levels_for) fun f fd cdv A outer s H B E hr nd => body_are_levels_for Z G_are_levels G_order_of_levels G_check_order f cdv A outer s H B E hr nd
  h
abbrev s_known_order : Stmt := topS 33
theorem sc_known_order : FnScope ["word", "width", "evens", "found", "at", "place"] ["word", "width"] (defScope s_known_order) := ⟨rfl, rfl, rfl, by decide +kernel, rfl, by decide +kernel, by decide +kernel⟩
def b1_known_order : MoS :=
  (mSetIx (mKeep (mVar 4)) (mVar 3) (mVar 5))
def t2_known_order : Mo Bool :=
  (mTest (mOp2 fEq (mOp2 (iC (fun _ j => decide (0 < j)) fun i j => i % j) (mVar 5) (mC (.int 2))) (mC (.int 0))))
def t3_known_order : Mo Bool :=
  (mTest (mOp2 fEq (mOp2 (iC (fun _ j => decide (0 < j)) fun i j => i % j) (mVar 5) (mC (.int 2))) (mC (.int 1))))
def e4_known_order : Mo D :=
  (mKeep (mOp2 (iC (fun _ j => decide (0 < j)) fun i j => i % j) (mOp2 (iI fun i j => i - j) (mVar 5) (mC (.int 1))) (mVar 1)))
def m_known_order : MoS :=
  (mSeq (mDrop (mCall F_check_width (mCons (mKeep (mVar 1)) mNil)))
    (mSeq (mIfS (mOr (mNot (mTest (mIsi .str (mVar 0)))) (mTest (mOp2 (fIn true) (mVar 0) (mTup (mCons (mKeep (mC (.str "mirror"))) (mCons (mKeep (mC (.str "halves"))) (mCons (mKeep (mC (.str "evens"))) (mCons (mKeep (mC (.str "turn"))) mNil))))))))
    mBad
    mSkip)
    (mSeq (mIfS (mTest (mOp2 fEq (mVar 0) (mC (.str "mirror"))))
    (mRet (mX (mTR (mRa3 (mCons (mKeep (mOp2 (iI fun i j => i - j) (mVar 1) (mC (.int 1)))) (mCons (mKeep (mOp1 (i1 fun i => -i) (mC (.int 1)))) (mCons (mKeep (mOp1 (i1 fun i => -i) (mC (.int 1)))) mNil)))))))
    mSkip)
    (mSeq (mIfS (mTest (mOp2 fEq (mVar 0) (mC (.str "turn"))))
    (mRet (mCB fTuple (vCons (mFz (mLc (mRg1 (mCons (mKeep (mVar 1)) mNil)) (gN 5) mYes e4_known_order [5])) vNil)))
    mSkip)
    (mSeq (mSet 2 (mOpG fAdd (mFz (mLc (mRg1 (mCons (mKeep (mVar 1)) mNil)) (gN 5) t2_known_order (mKeep (mVar 5)) [5])) (mFz (mLc (mRg1 (mCons (mKeep (mVar 1)) mNil)) (gN 5) t3_known_order (mKeep (mVar 5)) [5]))))
    (mSeq (mIfS (mTest (mOp2 fEq (mVar 0) (mC (.str "evens"))))
    (mRet (mCB fTuple (vCons (mVar 2) vNil)))
    mSkip)
    (mSeq (mSet 3 (mOpG fMul (mFz (mLst (mCons (mKeep (mC (.int 0))) mNil))) (mVar 1)))
    (mSeq (mFor (mEnumK (mCons (mKeep (mVar 2)) mNil)) (gT 2 (gsC (gN 4) (gsC (gN 5) gsN)))
    b1_known_order [4, 5])
    (mRet (mCB fTuple (vCons (mVar 3) vNil)))))))))))
def F_known_order : Fm := fnM 6 m_known_order
theorem body_known_order {T : List (Addr × Str)} {P : Program} {w : World} {K : PySem.W.Frag} {mg : Str → Option Value} {base : Heap} (Z : Zs K mg) (G_check_width : Cal P w K mg base T "check_width" 1 F_check_width 3) (f : Addr) (cdv : Value) (A : Around) (outer : List Env) (s : Shared) (H : Hp) (B : Bs) (E : XK) (hr : L2.Room 3 (A.deeper (envOfC "known_order" (defScope s_known_order) s.heap.objs.size f cdv))) (nd : Fact' (["word", "width", "evens", "found", "at", "place"] : List Str).Nodup) :
    SSE (cxD P w K mg base ["word", "width", "evens", "found", "at", "place"] "known_order" (defScope s_known_order) f cdv A outer s H E) ⟨⟨K, mg, T⟩, (["word", "width", "evens", "found", "at", "place"] : List Str).length, B, H⟩ (WD E) (defBody s_known_order) m_known_order := by
  have hu := hr.units
  have hu5 := hr.units5
  exact (sse_cons (se_expr (ge_call (G_check_width.k hr (by decide)) rfl (ae_cons (de_keep (v 1)) ae_nil) rfl (hms := (mCons_len mNil_len))))
    (sse_cons (se_if (te_w (we_or (te_not (te_val (ee_isi .str (by decide) rfl Z.z_isinstance (by decide +kernel) (v 0) rfl Z.z_str (by decide +kernel)))) (we_or1 (te_cmp (ok_notin hu5) (v 0) (ee_tup (ae_cons (de_keep ee_str) (ae_cons (de_keep ee_str) (ae_cons (de_keep ee_str) (ae_cons (de_keep ee_str) ae_nil))))) (by rfl)))))
    (sse_one se_bad)
    sse_nil)
    (sse_cons (se_if (te_cmp (ok_eq hu) (v 0) ee_str (nomark _))
    (sse_one (se_ret (ge_e (ee_tupR rfl Z.z_tuple (re_3 rfl Z.z_range (ae_cons (de_keep (ee_op2 ok_sub (v 1) ee_int)) (ae_cons (de_keep (ee_op1 ok_neg ee_int)) (ae_cons (de_keep (ee_op1 ok_neg ee_int)) ae_nil))))))))
    sse_nil)
    (sse_cons (se_if (te_cmp (ok_eq hu) (v 0) ee_str (nomark _))
    (sse_one (se_ret (ge_callTy ok_tuple rfl Z.z_tuple (by decide +kernel) (ve_cons (ee_fz (ge_lc (own := [("place", 5)]) (ie_range1 rfl Z.z_range (ae_cons (de_keep (v 1)) ae_nil)) (blkOk_by (by kernel_rfl)) (fun _ _ _ _ _ => (tn 5)) (fun _ _ _ _ _ => tt_nil) (fun _ _ _ _ _ => (de_keep (ee_op2 ok_mod (ee_op2 ok_sub (v 5) ee_int) (v 1)))))) ve_nil))))
    sse_nil)
    (sse_cons (st 2 (ge_op2 ok_add (ee_fz (ge_lc (own := [("place", 5)]) (ie_range1 rfl Z.z_range (ae_cons (de_keep (v 1)) ae_nil)) (blkOk_by (by kernel_rfl)) (fun _ _ _ _ _ => (tn 5)) (fun _ _ _ _ _ => (tt_one (te_cmp (ok_eq hu) (ee_op2 ok_mod (v 5) ee_int) ee_int (nomark _)))) (fun _ _ _ _ _ => (de_keep (v 5))))) (ee_fz (ge_lc (own := [("place", 5)]) (ie_range1 rfl Z.z_range (ae_cons (de_keep (v 1)) ae_nil)) (blkOk_by (by kernel_rfl)) (fun _ _ _ _ _ => (tn 5)) (fun _ _ _ _ _ => (tt_one (te_cmp (ok_eq hu) (ee_op2 ok_mod (v 5) ee_int) ee_int (nomark _)))) (fun _ _ _ _ _ => (de_keep (v 5)))))))
    (sse_cons (se_if (te_cmp (ok_eq hu) (v 0) ee_str (nomark _))
    (sse_one (se_ret (ge_callTy ok_tuple rfl Z.z_tuple (by decide +kernel) (ve_cons (v 2) ve_nil))))
    sse_nil)
    (sse_cons (st 3 (ge_op2 ok_mul (ee_fz (ge_lst (ae_cons (de_keep ee_int) ae_nil))) (v 1)))
    (sse_cons (se_for (vs := [4, 5]) [4, 5] (ie_enumK rfl Z.z_enumerate (ae_cons (de_keep (v 2)) ae_nil)) (tg_tup (tgs_cons (tn 4) (tgs_cons (tn 5) tgs_nil)))
    (sse_one (se_setIx (de_keep (v 4)) (v 3) (v 5))))
    (sse_one (se_ret (ge_callTy ok_tuple rfl Z.z_tuple (by decide +kernel) (ve_cons (v 3) ve_nil))))))))))))
theorem cal_known_order {T : List (Addr × Str)} {P : Program} {w : World} {K : PySem.W.Frag} {mg : Str → Option Value} {base : Heap} (Dx : DefAt K mg "known_order" s_known_order ["word", "width"]) (Z : Zs K mg) (G_check_width : Cal P w K mg base T "check_width" 1 F_check_width 3) : Cal P w K mg base T "known_order" 2 F_known_order 4 :=
  have h : Cal P w K mg base T "known_order" (["word", "width"] : List Str).length (fnM (["word", "width", "evens", "found", "at", "place"] : List Str).length m_known_order) (3 + 1) := cal_of Dx sc_known_order (by decide) (k := 3) (m := m_known_order) fun f fd cdv A outer s H B E hr nd => body_known_order Z G_check_width f cdv A outer s H B E hr nd
  h
abbrev s__law_hand : Stmt := topS 35
theorem sc__law_hand : FnScope ["script", "cells", "cell"] ["script"] (defScope s__law_hand) := ⟨rfl, rfl, rfl, by decide +kernel, rfl, by decide +kernel, by decide +kernel⟩
def e1__law_hand : Mo D :=
  (mKeepX (mCB fAbs (vCons (mFz (mCB fInt (vCons (mVar 2) vNil))) vNil)))
def m__law_hand : MoS :=
  (mSeq (mSet 1 (mLc (mIt (mKeepX (mSl (mVar 0) mNoPart (mPart (mC (.int 63)))))) (gN 2) mYes e1__law_hand [2]))
    (mRet (mLst (mCons (mKeep (mVar 1)) (mCons (mKeep (mC (.int 0))) (mCons (mKeep (mC (.int 0))) (mCons (mKeep (mOp2 (iI fun i j => i + j) (mC (.int 101)) (mOp2 (iC mulC fun i j => i * j) (mC (.int 7)) (mFz (mCB fLen (vCons (mVar 1) vNil)))))) (mCons (mKeep (mC (.int 0))) mNil))))))))
def F__law_hand : Fm := fnM 3 m__law_hand
theorem body__law_hand {T : List (Addr × Str)} {P : Program} {w : World} {K : PySem.W.Frag} {mg : Str → Option Value} {base : Heap} (Z : Zs K mg)  (f : Addr) (cdv : Value) (A : Around) (outer : List Env) (s : Shared) (H : Hp) (B : Bs) (E : XK) (hr : L2.Room 0 (A.deeper (envOfC "_law_hand" (defScope s__law_hand) s.heap.objs.size f cdv))) (nd : Fact' (["script", "cells", "cell"] : List Str).Nodup) :
    SSE (cxD P w K mg base ["script", "cells", "cell"] "_law_hand" (defScope s__law_hand) f cdv A outer s H E) ⟨⟨K, mg, T⟩, (["script", "cells", "cell"] : List Str).length, B, H⟩ (WD E) (defBody s__law_hand) m__law_hand := by
  have hu := hr.units
  have hu5 := hr.units5
  exact (sse_cons (se_setLc 1 (own := [("cell", 2)]) rfl rfl (sw_true rfl rfl rfl (by decide +kernel)) (ie_seq (de_keepX (ge_sl (v 0) oe_none (oe_some ee_int)))) (blkOk_by (by kernel_rfl)) (fun _ _ _ _ _ => (tn 2)) (fun _ _ _ _ _ => tt_nil) (fun _ _ _ _ _ => (de_keepX (ge_callB ok_abs rfl Z.z_abs (by decide +kernel) (ve_cons (ee_fz (ge_callTy ok_int rfl Z.z_int (by decide +kernel) (ve_cons (v 2) ve_nil))) ve_nil)))))
    (sse_one (se_ret (ge_lst (ae_cons (de_keep (v 1)) (ae_cons (de_keep ee_int) (ae_cons (de_keep ee_int) (ae_cons (de_keep (ee_op2 ok_addI ee_int (ee_op2 ok_mulI ee_int (ee_fz (ge_callB ok_len rfl Z.z_len (by decide +kernel) (ve_cons (v 1) ve_nil)))))) (ae_cons (de_keep ee_int) ae_nil)))))))))
theorem cal__law_hand {T : List (Addr × Str)} {P : Program} {w : World} {K : PySem.W.Frag} {mg : Str → Option Value} {base : Heap} (Dx : DefAt K mg "_law_hand" s__law_hand ["script"]) (Z : Zs K mg)  : Cal P w K mg base T "_law_hand" 1 F__law_hand 1 :=
  have h : Cal P w K mg base T "_law_hand" (["script"] : List Str).length (fnM (["script", "cells", "cell"] : List Str).length m__law_hand) (0 + 1) := cal_of Dx sc__law_hand (by decide) (k := 0) (m := m__law_hand) fun f fd cdv A outer s H B E hr nd => body__law_hand Z  f cdv A outer s H B E hr nd
  h
abbrev s__law_draw : Stmt := topS 36
theorem sc__law_draw : FnScope ["hand", "many", "cell", "digit", "number"] ["hand", "many"] (defScope s__law_draw) := ⟨rfl, rfl, rfl, by decide +kernel, rfl, by decide +kernel, by decide +kernel⟩
def m__law_draw : MoS :=
  (mSeq (mIfS (mAnd (mTest (mOp2 fEq (mOp2 fIx (mVar 0) (mC (.int 2))) (mC (.int 0)))) (mTest (mOp2 (iB fun i j => decide (i < j)) (mOp2 fIx (mVar 0) (mC (.int 1))) (mFz (mCB fLen (vCons (mOp2 fIx (mVar 0) (mC (.int 0))) vNil))))))
    (mSeq (mSet 2 (mX (mOp2 fIx (mOp2 fIx (mVar 0) (mC (.int 0))) (mOp2 fIx (mVar 0) (mC (.int 1))))))
    (mSeq (mSetIx (mKeep (mOp2 (iI fun i j => i + j) (mOp2 fIx (mVar 0) (mC (.int 1))) (mC (.int 1)))) (mVar 0) (mC (.int 1)))
    (mSeq (mSetIx (mKeep (mOp2 (iC (fun _ j => decide (0 < j)) fun i j => i % j) (mFz (mCB fInt (vCons (mOp2 (iI fun i j => i + j) (mFz (mOpG fAdd (mOp2 (iC mulC fun i j => i * j) (mOp2 fIx (mVar 0) (mC (.int 3))) (mC (.int 69621))) (mOp2 (iC mulC fun i j => i * j) (mVar 2) (mC (.int 40692))))) (mC (.int 23))) vNil))) (mC (.int 2147483629)))) (mVar 0) (mC (.int 3)))
    (mIfS (mTest (mOp2 (iB fun i j => decide (j ≤ i)) (mVar 2) (mOp2 (iC powC fun i j => i ^ j.toNat) (mC (.int 10)) (mC (.int 18)))))
    (mSetIx (mKeep (mVar 2)) (mVar 0) (mC (.int 2)))
    mSkip))))
    mSkip)
    (mSeq (mIfS (mTest (mOp2 (iB fun i j => decide (j < i)) (mOp2 fIx (mVar 0) (mC (.int 2))) (mC (.int 0))))
    (mSeq (mSet 3 (mX (mOp2 (iC (fun _ j => decide (0 < j)) fun i j => i % j) (mFz (mCB fInt (vCons (mOp2 fIx (mVar 0) (mC (.int 2))) vNil))) (mVar 1))))
    (mSeq (mSetIx (mKeep (mOp2 (iC divC fun i j => i / j) (mOp2 fIx (mVar 0) (mC (.int 2))) (mVar 1))) (mVar 0) (mC (.int 2)))
    (mRet (mX (mVar 3)))))
    mSkip)
    (mSeq (mSetIx (mKeep (mOp2 (iI fun i j => i + j) (mOp2 fIx (mVar 0) (mC (.int 4))) (mC (.int 1)))) (mVar 0) (mC (.int 4)))
    (mSeq (mSet 4 (mX (mOp2 (iC (fun _ j => decide (0 < j)) fun i j => i % j) (mFz (mCB fInt (vCons (mOp2 (iC mulC fun i j => i * j) (mFz (mCB fInt (vCons (mFz (mOpG fAdd (mOp2 fIx (mVar 0) (mC (.int 3))) (mOp2 (iC mulC fun i j => i * j) (mC (.int 7919)) (mOp2 fIx (mVar 0) (mC (.int 4)))))) vNil))) (mC (.int 48271))) vNil))) (mC (.int 2147483647)))))
    (mSeq (mSet 4 (mX (mOp2 (iC (fun _ j => decide (0 < j)) fun i j => i % j) (mFz (mCB fInt (vCons (mOp2 (iC mulC fun i j => i * j) (mVar 4) (mOp2 (iI fun i j => i + j) (mOp2 (iC divC fun i j => i / j) (mVar 4) (mC (.int 1009))) (mC (.int 69621)))) vNil))) (mC (.int 2147483647)))))
    (mSeq (mSet 4 (mX (mOp2 (iC (fun _ j => decide (0 < j)) fun i j => i % j) (mFz (mCB fInt (vCons (mOp2 (iC mulC fun i j => i * j) (mVar 4) (mOp2 (iI fun i j => i + j) (mOp2 (iC divC fun i j => i / j) (mVar 4) (mC (.int 2003))) (mC (.int 40014)))) vNil))) (mC (.int 2147483563)))))
    (mRet (mX (mOp2 (iC (fun _ j => decide (0 < j)) fun i j => i % j) (mFz (mCB fInt (vCons (mOp2 (iC divC fun i j => i / j) (mVar 4) (mC (.int 16))) vNil))) (mVar 1))))))))))
def F__law_draw : Fm := fnM 5 m__law_draw
theorem body__law_draw {T : List (Addr × Str)} {P : Program} {w : World} {K : PySem.W.Frag} {mg : Str → Option Value} {base : Heap} (Z : Zs K mg)  (f : Addr) (cdv : Value) (A : Around) (outer : List Env) (s : Shared) (H : Hp) (B : Bs) (E : XK) (hr : L2.Room 0 (A.deeper (envOfC "_law_draw" (defScope s__law_draw) s.heap.objs.size f cdv))) (nd : Fact' (["hand", "many", "cell", "digit", "number"] : List Str).Nodup) :
    SSE (cxD P w K mg base ["hand", "many", "cell", "digit", "number"] "_law_draw" (defScope s__law_draw) f cdv A outer s H E) ⟨⟨K, mg, T⟩, (["hand", "many", "cell", "digit", "number"] : List Str).length, B, H⟩ (WD E) (defBody s__law_draw) m__law_draw := by
  have hu := hr.units
  have hu5 := hr.units5
  exact (sse_cons (se_if (te_w (we_and (te_cmp (ok_eq hu) (ee_ix (v 0) ee_int) ee_int (nomark _)) (we_and1 (te_cmp ok_lt (ee_ix (v 0) ee_int) (ee_fz (ge_callB ok_len rfl Z.z_len (by decide +kernel) (ve_cons (ee_ix (v 0) ee_int) ve_nil))) (nomark _)))))
    (sse_cons (st 2 (ge_e (ee_ix (ee_ix (v 0) ee_int) (ee_ix (v 0) ee_int))))
    (sse_cons (se_setIx (de_keep (ee_op2 ok_addI (ee_ix (v 0) ee_int) ee_int)) (v 0) ee_int)
    (sse_cons (se_setIx (de_keep (ee_op2 ok_mod (ee_fz (ge_callTy ok_int rfl Z.z_int (by decide +kernel) (ve_cons (ee_op2 ok_addI (ee_fz (ge_op2 ok_add (ee_op2 ok_mulI (ee_ix (v 0) ee_int) ee_int) (ee_op2 ok_mulI (v 2) ee_int))) ee_int) ve_nil))) ee_int)) (v 0) ee_int)
    (sse_one (se_if (te_cmp ok_ge (v 2) (ee_op2 ok_pow ee_int ee_int) (nomark _))
    (sse_one (se_setIx (de_keep (v 2)) (v 0) ee_int))
    sse_nil)))))
    sse_nil)
    (sse_cons (se_if (te_cmp ok_gt (ee_ix (v 0) ee_int) ee_int (nomark _))
    (sse_cons (st 3 (ge_e (ee_op2 ok_mod (ee_fz (ge_callTy ok_int rfl Z.z_int (by decide +kernel) (ve_cons (ee_ix (v 0) ee_int) ve_nil))) (v 1))))
    (sse_cons (se_setIx (de_keep (ee_op2 ok_div (ee_ix (v 0) ee_int) (v 1))) (v 0) ee_int)
    (sse_one (se_ret (ge_e (v 3))))))
    sse_nil)
    (sse_cons (se_setIx (de_keep (ee_op2 ok_addI (ee_ix (v 0) ee_int) ee_int)) (v 0) ee_int)
    (sse_cons (st 4 (ge_e (ee_op2 ok_mod (ee_fz (ge_callTy ok_int rfl Z.z_int (by decide +kernel) (ve_cons (ee_op2 ok_mulI (ee_fz (ge_callTy ok_int rfl Z.z_int (by decide +kernel) (ve_cons (ee_fz (ge_op2 ok_add (ee_ix (v 0) ee_int) (ee_op2 ok_mulI ee_int (ee_ix (v 0) ee_int)))) ve_nil))) ee_int) ve_nil))) ee_int)))
    (sse_cons (st 4 (ge_e (ee_op2 ok_mod (ee_fz (ge_callTy ok_int rfl Z.z_int (by decide +kernel) (ve_cons (ee_op2 ok_mulI (v 4) (ee_op2 ok_addI (ee_op2 ok_div (v 4) ee_int) ee_int)) ve_nil))) ee_int)))
    (sse_cons (st 4 (ge_e (ee_op2 ok_mod (ee_fz (ge_callTy ok_int rfl Z.z_int (by decide +kernel) (ve_cons (ee_op2 ok_mulI (v 4) (ee_op2 ok_addI (ee_op2 ok_div (v 4) ee_int) ee_int)) ve_nil))) ee_int)))
    (sse_one (se_ret (ge_e (ee_op2 ok_mod (ee_fz (ge_callTy ok_int rfl Z.z_int (by decide +kernel) (ve_cons (ee_op2 ok_div (v 4) ee_int) ve_nil))) (v 1)))))))))))
theorem cal__law_draw {T : List (Addr × Str)} {P : Program} {w : World} {K : PySem.W.Frag} {mg : Str → Option Value} {base : Heap} (Dx : DefAt K mg "_law_draw" s__law_draw ["hand", "many"]) (Z : Zs K mg)  : Cal P w K mg base T "_law_draw" 2 F__law_draw 1 :=
  have h : Cal P w K mg base T "_law_draw" (["hand", "many"] : List Str).length (fnM (["hand", "many", "cell", "digit", "number"] : List Str).length m__law_draw) (0 + 1) := cal_of Dx sc__law_draw (by decide) (k := 0) (m := m__law_draw) fun f fd cdv A outer s H B E hr nd => body__law_draw Z  f cdv A outer s H B E hr nd
  h
abbrev s__law_any : Stmt := topS 37
theorem sc__law_any : FnScope ["hand", "some"] ["hand", "some"] (defScope s__law_any) := ⟨rfl, rfl, rfl, by decide +kernel, rfl, by decide +kernel, by decide +kernel⟩
def m__law_any : MoS :=
  (mRet (mX (mOp2 fIx (mVar 1) (mFz (mCall F__law_draw (mCons (mKeep (mVar 0)) (mCons (mKeepX (mCB fLen (vCons (mVar 1) vNil))) mNil)))))))
def F__law_any : Fm := fnM 2 m__law_any
theorem body__law_any {T : List (Addr × Str)} {P : Program} {w : World} {K : PySem.W.Frag} {mg : Str → Option Value} {base : Heap} (Z : Zs K mg) (G__law_draw : Cal P w K mg base T "_law_draw" 2 F__law_draw 1) (f : Addr) (cdv : Value) (A : Around) (outer : List Env) (s : Shared) (H : Hp) (B : Bs) (E : XK) (hr : L2.Room 1 (A.deeper (envOfC "_law_any" (defScope s__law_any) s.heap.objs.size f cdv))) (nd : Fact' (["hand", "some"] : List Str).Nodup) :
    SSE (cxD P w K mg base ["hand", "some"] "_law_any" (defScope s__law_any) f cdv A outer s H E) ⟨⟨K, mg, T⟩, (["hand", "some"] : List Str).length, B, H⟩ (WD E) (defBody s__law_any) m__law_any := by
  have hu := hr.units
  have hu5 := hr.units5
  exact (sse_one (se_ret (ge_e (ee_ix (v 1) (ee_fz (ge_call (G__law_draw.k hr (by decide)) rfl (ae_cons (de_keep (v 0)) (ae_cons (de_keepX (ge_callB ok_len rfl Z.z_len (by decide +kernel) (ve_cons (v 1) ve_nil))) ae_nil)) rfl (hms := (mCons_len (mCons_len mNil_len)))))))))
theorem cal__law_any {T : List (Addr × Str)} {P : Program} {w : World} {K : PySem.W.Frag} {mg : Str → Option Value} {base : Heap} (Dx : DefAt K mg "_law_any" s__law_any ["hand", "some"]) (Z : Zs K mg) (G__law_draw : Cal P w K mg base T "_law_draw" 2 F__law_draw 1) : Cal P w K mg base T "_law_any" 2 F__law_any 2 :=
  have h : Cal P w K mg base T "_law_any" (["hand", "some"] : List Str).length (fnM (["hand", "some"] : List Str).length m__law_any) (1 + 1) := cal_of Dx sc__law_any (by decide) (k := 1) (m := m__law_any) fun f fd cdv A outer s H B E hr nd => body__law_any Z G__law_draw f cdv A outer s H B E hr nd
  h
abbrev s__law_shuffled : Stmt := topS 38
theorem sc__law_shuffled : FnScope ["hand", "some", "rest", "found"] ["hand", "some"] (defScope s__law_shuffled) := ⟨rfl, rfl, rfl, by decide +kernel, rfl, by decide +kernel, by decide +kernel⟩
def t1__law_shuffled : Mo Bool :=
  (mTest (mOp2 (iB fun i j => decide (j < i)) (mFz (mCB fLen (vCons (mVar 2) vNil))) (mC (.int 0))))
def b2__law_shuffled : MoS :=
  (mAppend (mVar 3) (mKeep (mPopAt (mVar 2) (mFz (mCall F__law_draw (mCons (mKeep (mVar 0)) (mCons (mKeepX (mCB fLen (vCons (mVar 2) vNil))) mNil)))))))
def m__law_shuffled : MoS :=
  (mSeq (mPar2 2 3 (mPv (mCB fList (vCons (mVar 1) vNil))) (mPv (mLst mNil)))
    (mSeq (mWhile t1__law_shuffled
    b2__law_shuffled [])
    (mRet (mX (mVar 3)))))
def F__law_shuffled : Fm := fnM 4 m__law_shuffled
theorem body__law_shuffled {T : List (Addr × Str)} {P : Program} {w : World} {K : PySem.W.Frag} {mg : Str → Option Value} {base : Heap} (Z : Zs K mg) (G__law_draw : Cal P w K mg base T "_law_draw" 2 F__law_draw 1) (f : Addr) (cdv : Value) (A : Around) (outer : List Env) (s : Shared) (H : Hp) (B : Bs) (E : XK) (hr : L2.Room 1 (A.deeper (envOfC "_law_shuffled" (defScope s__law_shuffled) s.heap.objs.size f cdv))) (nd : Fact' (["hand", "some", "rest", "found"] : List Str).Nodup) :
    SSE (cxD P w K mg base ["hand", "some", "rest", "found"] "_law_shuffled" (defScope s__law_shuffled) f cdv A outer s H E) ⟨⟨K, mg, T⟩, (["hand", "some", "rest", "found"] : List Str).length, B, H⟩ (WD E) (defBody s__law_shuffled) m__law_shuffled := by
  have hu := hr.units
  have hu5 := hr.units5
  exact (sse_cons (se_par2 2 3 rfl rfl (by decide) rfl rfl (xe_of (ge_callTy ok_list rfl Z.z_list (by decide +kernel) (ve_cons (v 1) ve_nil))) (xe_of (ge_lst ae_nil)))
    (sse_cons (se_while [] (te_cmp ok_gt (ee_fz (ge_callB ok_len rfl Z.z_len (by decide +kernel) (ve_cons (v 2) ve_nil))) ee_int (nomark _))
    (sse_one (se_append (v 3) (de_keep (ee_popAt (v 2) (ee_fz (ge_call (G__law_draw.k hr (by decide)) rfl (ae_cons (de_keep (v 0)) (ae_cons (de_keepX (ge_callB ok_len rfl Z.z_len (by decide +kernel) (ve_cons (v 2) ve_nil))) ae_nil)) rfl (hms := (mCons_len (mCons_len mNil_len))))))))))
    (sse_one (se_ret (ge_e (v 3))))))
theorem cal__law_shuffled {T : List (Addr × Str)} {P : Program} {w : World} {K : PySem.W.Frag} {mg : Str → Option Value} {base : Heap} (Dx : DefAt K mg "_law_shuffled" s__law_shuffled ["hand", "some"]) (Z : Zs K mg) (G__law_draw : Cal P w K mg base T "_law_draw" 2 F__law_draw 1) : Cal P w K mg base T "_law_shuffled" 2 F__law_shuffled 2 :=
  have h : Cal P w K mg base T "_law_shuffled" (["hand", "some"] : List Str).length (fnM (["hand", "some", "rest", "found"] : List Str).length m__law_shuffled) (1 + 1) := cal_of Dx sc__law_shuffled (by decide) (k := 1) (m := m__law_shuffled) fun f fd cdv A outer s H B E hr nd => body__law_shuffled Z G__law_draw f cdv A outer s H B E hr nd
  h
abbrev s__law_is : Stmt := topS 39
theorem sc__law_is : FnScope ["said", "due", "one", "other"] ["said", "due"] (defScope s__law_is) := ⟨rfl, rfl, rfl, by decide +kernel, rfl, by decide +kernel, by decide +kernel⟩
def e1__law_is (R : Fm) : Mo D :=
  (mKeepX (mCall R (mCons (mKeep (mVar 2)) (mCons (mKeep (mVar 3)) mNil))))
def m__law_is (R : Fm) : MoS :=
  (mSeq (mIfS (mTest (mIsi2 .tup .lst (mVar 1)))
    (mSeq (mIfS (mOr (mTest (mOp2 fNe (mIsi .tup (mVar 0)) (mIsi .tup (mVar 1)))) (mTest (mOp2 fNe (mIsi .lst (mVar 0)) (mIsi .lst (mVar 1)))))
    (mRet (mX (mC (.bl false))))
    mSkip)
    (mRet (mX (mAndV (mOp2 fEq (mFz (mCB fLen (vCons (mVar 0) vNil))) (mFz (mCB fLen (vCons (mVar 1) vNil)))) (mFz (mCB fAll (vCons (mFz (mLc (mZip2 (mCons (mKeep (mVar 0)) (mCons (mKeep (mVar 1)) mNil))) (gT 2 (gsC (gN 2) (gsC (gN 3) gsN))) mYes (e1__law_is R) [2, 3])) vNil)))))))
    mSkip)
    (mSeq (mIfS (mOr (mTest (mOp2 (fIsN false) (mVar 1) (mC .non))) (mTest (mOp2 (fIsN false) (mVar 0) (mC .non))))
    (mRet (mX (mAndV (mOp2 (fIsN false) (mVar 1) (mC .non)) (mOp2 (fIsN false) (mVar 0) (mC .non)))))
    mSkip)
    (mSeq (mIfS (mOr (mTest (mOp2 fNe (mIsi .bl (mVar 0)) (mIsi .bl (mVar 1)))) (mTest (mOp2 fNe (mIsi .int (mVar 0)) (mIsi .int (mVar 1)))))
    (mRet (mX (mC (.bl false))))
    mSkip)
    (mRet (mX (mAndV (mOp2 fEq (mIsi .str (mVar 0)) (mIsi .str (mVar 1))) (mOp2 fEq (mVar 0) (mVar 1))))))))
def Fr__law_is : Nat → Fm | 0 => fnM 4 mBad | n + 1 => fnM 4 (m__law_is (Fr__law_is n))
def F__law_is : Fm := Fr__law_is 6
theorem body__law_is {T : List (Addr × Str)} {P : Program} {w : World} {K : PySem.W.Frag} {mg : Str → Option Value} {base : Heap} (Z : Zs K mg)  (R : Fm) (n : Nat) (G__law_is : Cal P w K mg base T "_law_is" 2 R (1 + n)) (f : Addr) (cdv : Value) (A : Around) (outer : List Env) (s : Shared) (H : Hp) (B : Bs) (E : XK) (hr : L2.Room (1 + n) (A.deeper (envOfC "_law_is" (defScope s__law_is) s.heap.objs.size f cdv))) (nd : Fact' (["said", "due", "one", "other"] : List Str).Nodup) :
    SSE (cxD P w K mg base ["said", "due", "one", "other"] "_law_is" (defScope s__law_is) f cdv A outer s H E) ⟨⟨K, mg, T⟩, (["said", "due", "one", "other"] : List Str).length, B, H⟩ (WD E) (defBody s__law_is) (m__law_is R) := by
  have hu := hr.units
  have hu5 := hr.units5
  exact (sse_cons (se_if (te_val (ee_isi2 .tup .lst (by decide) (by decide) rfl Z.z_isinstance (by decide +kernel) (v 1) rfl Z.z_tuple (by decide +kernel) rfl Z.z_list (by decide +kernel)))
    (sse_cons (se_if (te_w (we_or (te_cmp (ok_ne hu) (ee_isi .tup (by decide) rfl Z.z_isinstance (by decide +kernel) (v 0) rfl Z.z_tuple (by decide +kernel)) (ee_isi .tup (by decide) rfl Z.z_isinstance (by decide +kernel) (v 1) rfl Z.z_tuple (by decide +kernel)) (nomark _)) (we_or1 (te_cmp (ok_ne hu) (ee_isi .lst (by decide) rfl Z.z_isinstance (by decide +kernel) (v 0) rfl Z.z_list (by decide +kernel)) (ee_isi .lst (by decide) rfl Z.z_isinstance (by decide +kernel) (v 1) rfl Z.z_list (by decide +kernel)) (nomark _)))))
    (sse_one (se_ret (ge_e ee_bl)))
    sse_nil)
    (sse_one (se_ret (ge_e (ee_and (ee_cmp (ok_eq hu) (ee_fz (ge_callB ok_len rfl Z.z_len (by decide +kernel) (ve_cons (v 0) ve_nil))) (ee_fz (ge_callB ok_len rfl Z.z_len (by decide +kernel) (ve_cons (v 1) ve_nil))) (nomark _)) (ee_one (ee_fz (ge_callB ok_all rfl Z.z_all (by decide +kernel) (ve_cons (ee_fz (ge_lc (own := [("one", 2), ("other", 3)]) (ie_zip2 rfl Z.z_zip (ae_cons (de_keep (v 0)) (ae_cons (de_keep (v 1)) ae_nil))) (blkOk_by (by kernel_rfl)) (fun _ _ _ _ _ => (tg_tup (tgs_cons (tn 2) (tgs_cons (tn 3) tgs_nil)))) (fun _ _ _ _ _ => tt_nil) (fun _ _ _ _ _ => (de_keepX (ge_call (fnkB (G__law_is.k hr (by omega))) rfl (ae_cons (de_keep (v 2)) (ae_cons (de_keep (v 3)) ae_nil)) rfl (hms := (mCons_len (mCons_len mNil_len)))))))) ve_nil)))))))))
    sse_nil)
    (sse_cons (se_if (te_w (we_or (te_cmp ok_is (v 1) ee_non (nomark _)) (we_or1 (te_cmp ok_is (v 0) ee_non (nomark _)))))
    (sse_one (se_ret (ge_e (ee_and (ee_cmp ok_is (v 1) ee_non (nomark _)) (ee_one (ee_cmp ok_is (v 0) ee_non (nomark _)))))))
    sse_nil)
    (sse_cons (se_if (te_w (we_or (te_cmp (ok_ne hu) (ee_isi .bl (by decide) rfl Z.z_isinstance (by decide +kernel) (v 0) rfl Z.z_bool (by decide +kernel)) (ee_isi .bl (by decide) rfl Z.z_isinstance (by decide +kernel) (v 1) rfl Z.z_bool (by decide +kernel)) (nomark _)) (we_or1 (te_cmp (ok_ne hu) (ee_isi .int (by decide) rfl Z.z_isinstance (by decide +kernel) (v 0) rfl Z.z_int (by decide +kernel)) (ee_isi .int (by decide) rfl Z.z_isinstance (by decide +kernel) (v 1) rfl Z.z_int (by decide +kernel)) (nomark _)))))
    (sse_one (se_ret (ge_e ee_bl)))
    sse_nil)
    (sse_one (se_ret (ge_e (ee_and (ee_cmp (ok_eq hu) (ee_isi .str (by decide) rfl Z.z_isinstance (by decide +kernel) (v 0) rfl Z.z_str (by decide +kernel)) (ee_isi .str (by decide) rfl Z.z_isinstance (by decide +kernel) (v 1) rfl Z.z_str (by decide +kernel)) (nomark _)) (ee_one (ee_cmp (ok_eq hu) (v 0) (v 1) (nomark _))))))))))
theorem calR__law_is {T : List (Addr × Str)} {P : Program} {w : World} {K : PySem.W.Frag} {mg : Str → Option Value} {base : Heap} (Dx : DefAt K mg "_law_is" s__law_is ["said", "due"]) (Z : Zs K mg)  : ∀ n, Cal P w K mg base T "_law_is" 2 (Fr__law_is n) (1 + n)
  | 0 => cal_bad (x := "_law_is") (st := s__law_is) (N := ["said", "due", "one", "other"]) (ps := ["said", "due"]) Dx sc__law_is (by decide) 0
  | n + 1 => have h : Cal P w K mg base T "_law_is" (["said", "due"] : List Str).length (fnM (["said", "due", "one", "other"] : List Str).length (m__law_is (Fr__law_is n))) (1 + n + 1) := cal_of Dx sc__law_is (by decide) (k := 1 + n) (m := m__law_is (Fr__law_is n)) fun f fd cdv A outer s H B E hr nd => body__law_is Z  (Fr__law_is n) n (calR__law_is Dx Z  n) f cdv A outer s H B E hr nd
    h
theorem cal__law_is {T : List (Addr × Str)} {P : Program} {w : World} {K : PySem.W.Frag} {mg : Str → Option Value} {base : Heap} (Dx : DefAt K mg "_law_is" s__law_is ["said", "due"]) (Z : Zs K mg)  : Cal P w K mg base T "_law_is" 2 F__law_is 7 := calR__law_is Dx Z  6
abbrev s__law_is_int : Stmt := topS 40
theorem sc__law_is_int : FnScope ["thing"] ["thing"] (defScope s__law_is_int) := ⟨rfl, rfl, rfl, by decide +kernel, rfl, by decide +kernel, by decide +kernel⟩
def m__law_is_int : MoS :=
  (mRet (mX (mAndV (mIsi .int (mVar 0)) (mNotV (mIsi .bl (mVar 0))))))
def F__law_is_int : Fm := fnM 1 m__law_is_int
theorem body__law_is_int {T : List (Addr × Str)} {P : Program} {w : World} {K : PySem.W.Frag} {mg : Str → Option Value} {base : Heap} (Z : Zs K mg)  (f : Addr) (cdv : Value) (A : Around) (outer : List Env) (s : Shared) (H : Hp) (B : Bs) (E : XK) (hr : L2.Room 0 (A.deeper (envOfC "_law_is_int" (defScope s__law_is_int) s.heap.objs.size f cdv))) (nd : Fact' (["thing"] : List Str).Nodup) :
    SSE (cxD P w K mg base ["thing"] "_law_is_int" (defScope s__law_is_int) f cdv A outer s H E) ⟨⟨K, mg, T⟩, (["thing"] : List Str).length, B, H⟩ (WD E) (defBody s__law_is_int) m__law_is_int := by
  have hu := hr.units
  have hu5 := hr.units5
  exact (sse_one (se_ret (ge_e (ee_and (ee_isi .int (by decide) rfl Z.z_isinstance (by decide +kernel) (v 0) rfl Z.z_int (by decide +kernel)) (ee_one (ee_not (ee_isi .bl (by decide) rfl Z.z_isinstance (by decide +kernel) (v 0) rfl Z.z_bool (by decide +kernel))))))))
theorem cal__law_is_int {T : List (Addr × Str)} {P : Program} {w : World} {K : PySem.W.Frag} {mg : Str → Option Value} {base : Heap} (Dx : DefAt K mg "_law_is_int" s__law_is_int ["thing"]) (Z : Zs K mg)  : Cal P w K mg base T "_law_is_int" 1 F__law_is_int 1 :=
  have h : Cal P w K mg base T "_law_is_int" (["thing"] : List Str).length (fnM (["thing"] : List Str).length m__law_is_int) (0 + 1) := cal_of Dx sc__law_is_int (by decide) (k := 0) (m := m__law_is_int) fun f fd cdv A outer s H B E hr nd => body__law_is_int Z  f cdv A outer s H B E hr nd
  h
abbrev s__law_size : Stmt := topS 41
theorem sc__law_size : FnScope ["width", "found", "turn"] ["width"] (defScope s__law_size) := ⟨rfl, rfl, rfl, by decide +kernel, rfl, by decide +kernel, by decide +kernel⟩
def b1__law_size : MoS :=
  (mSet 1 (mX (mOp2 (iC mulC fun i j => i * j) (mC (.int 2)) (mVar 1))))
def m__law_size : MoS :=
  (mSeq (mSet 1 (mX (mC (.int 1))))
    (mSeq (mFor (mRg1 (mCons (mKeep (mVar 0)) mNil)) (gN 2)
    b1__law_size [2])
    (mRet (mX (mVar 1)))))
def F__law_size : Fm := fnM 3 m__law_size
theorem body__law_size {T : List (Addr × Str)} {P : Program} {w : World} {K : PySem.W.Frag} {mg : Str → Option Value} {base : Heap} (Z : Zs K mg)  (f : Addr) (cdv : Value) (A : Around) (outer : List Env) (s : Shared) (H : Hp) (B : Bs) (E : XK) (hr : L2.Room 0 (A.deeper (envOfC "_law_size" (defScope s__law_size) s.heap.objs.size f cdv))) (nd : Fact' (["width", "found", "turn"] : List Str).Nodup) :
    SSE (cxD P w K mg base ["width", "found", "turn"] "_law_size" (defScope s__law_size) f cdv A outer s H E) ⟨⟨K, mg, T⟩, (["width", "found", "turn"] : List Str).length, B, H⟩ (WD E) (defBody s__law_size) m__law_size := by
  have hu := hr.units
  have hu5 := hr.units5
  exact (sse_cons (st 1 (ge_e ee_int))
    (sse_cons (se_for (vs := [2]) [2] (ie_range1 rfl Z.z_range (ae_cons (de_keep (v 0)) ae_nil)) (tn 2)
    (sse_one (st 1 (ge_e (ee_op2 ok_mulI ee_int (v 1))))))
    (sse_one (se_ret (ge_e (v 1))))))
theorem cal__law_size {T : List (Addr × Str)} {P : Program} {w : World} {K : PySem.W.Frag} {mg : Str → Option Value} {base : Heap} (Dx : DefAt K mg "_law_size" s__law_size ["width"]) (Z : Zs K mg)  : Cal P w K mg base T "_law_size" 1 F__law_size 1 :=
  have h : Cal P w K mg base T "_law_size" (["width"] : List Str).length (fnM (["width", "found", "turn"] : List Str).length m__law_size) (0 + 1) := cal_of Dx sc__law_size (by decide) (k := 0) (m := m__law_size) fun f fd cdv A outer s H B E hr nd => body__law_size Z  f cdv A outer s H B E hr nd
  h
abbrev s__law_width : Stmt := topS 42
theorem sc__law_width : FnScope ["hand"] ["hand"] (defScope s__law_width) := ⟨rfl, rfl, rfl, by decide +kernel, rfl, by decide +kernel, by decide +kernel⟩
def m__law_width : MoS :=
  (mRet (mCall F__law_any (mCons (mKeep (mVar 0)) (mCons (mKeepX (mLst (mCons (mKeep (mC (.int 1))) (mCons (mKeep (mC (.int 2))) (mCons (mKeep (mC (.int 3))) (mCons (mKeep (mC (.int 4))) (mCons (mKeep (mC (.int 8))) (mCons (mKeep (mC (.int 16))) (mCons (mKeep (mC (.int 32))) (mCons (mKeep (mC (.int 63))) (mCons (mKeep (mC (.int 64))) (mCons (mKeep (mOp2 (iI fun i j => i + j) (mC (.int 1)) (mFz (mCall F__law_draw (mCons (mKeep (mVar 0)) (mCons (mKeep (mC (.int 64))) mNil)))))) (mCons (mKeep (mOp2 (iI fun i j => i + j) (mC (.int 1)) (mFz (mCall F__law_draw (mCons (mKeep (mVar 0)) (mCons (mKeep (mC (.int 10))) mNil)))))) mNil))))))))))))) mNil))))
def F__law_width : Fm := fnM 1 m__law_width
theorem body__law_width {T : List (Addr × Str)} {P : Program} {w : World} {K : PySem.W.Frag} {mg : Str → Option Value} {base : Heap} (Z : Zs K mg) (G__law_any : Cal P w K mg base T "_law_any" 2 F__law_any 2) (G__law_draw : Cal P w K mg base T "_law_draw" 2 F__law_draw 1) (f : Addr) (cdv : Value) (A : Around) (outer : List Env) (s : Shared) (H : Hp) (B : Bs) (E : XK) (hr : L2.Room 2 (A.deeper (envOfC "_law_width" (defScope s__law_width) s.heap.objs.size f cdv))) (nd : Fact' (["hand"] : List Str).Nodup) :
    SSE (cxD P w K mg base ["hand"] "_law_width" (defScope s__law_width) f cdv A outer s H E) ⟨⟨K, mg, T⟩, (["hand"] : List Str).length, B, H⟩ (WD E) (defBody s__law_width) m__law_width := by
  have hu := hr.units
  have hu5 := hr.units5
  exact (sse_one (se_ret (ge_call (G__law_any.k hr (by decide)) rfl (ae_cons (de_keep (v 0)) (ae_cons (de_keepX (ge_lst (ae_cons (de_keep ee_int) (ae_cons (de_keep ee_int) (ae_cons (de_keep ee_int) (ae_cons (de_keep ee_int) (ae_cons (de_keep ee_int) (ae_cons (de_keep ee_int) (ae_cons (de_keep ee_int) (ae_cons (de_keep ee_int) (ae_cons (de_keep ee_int) (ae_cons (de_keep (ee_op2 ok_addI ee_int (ee_fz (ge_call (G__law_draw.k hr (by decide)) rfl (ae_cons (de_keep (v 0)) (ae_cons (de_keep ee_int) ae_nil)) rfl (hms := (mCons_len (mCons_len mNil_len))))))) (ae_cons (de_keep (ee_op2 ok_addI ee_int (ee_fz (ge_call (G__law_draw.k hr (by decide)) rfl (ae_cons (de_keep (v 0)) (ae_cons (de_keep ee_int) ae_nil)) rfl (hms := (mCons_len (mCons_len mNil_len))))))) ae_nil))))))))))))) ae_nil)) rfl (hms := (mCons_len (mCons_len mNil_len))))))
theorem cal__law_width {T : List (Addr × Str)} {P : Program} {w : World} {K : PySem.W.Frag} {mg : Str → Option Value} {base : Heap} (Dx : DefAt K mg "_law_width" s__law_width ["hand"]) (Z : Zs K mg) (G__law_any : Cal P w K mg base T "_law_any" 2 F__law_any 2) (G__law_draw : Cal P w K mg base T "_law_draw" 2 F__law_draw 1) : Cal P w K mg base T "_law_width" 1 F__law_width 3 :=
  have h : Cal P w K mg base T "_law_width" (["hand"] : List Str).length (fnM (["hand"] : List Str).length m__law_width) (2 + 1) := cal_of Dx sc__law_width (by decide) (k := 2) (m := m__law_width) fun f fd cdv A outer s H B E hr nd => body__law_width Z G__law_any G__law_draw f cdv A outer s H B E hr nd
  h
abbrev s__law_word : Stmt := topS 43
theorem sc__law_word : FnScope ["hand", "width", "size", "drawn", "few", "turn", "half", "near"] ["hand", "width"] (defScope s__law_word) := ⟨rfl, rfl, rfl, by decide +kernel, rfl, by decide +kernel, by decide +kernel⟩
def b1__law_word : MoS :=
  (mSet 4 (mX (mOp2 (iI Builtin.bitOr) (mVar 4) (mFz (mCall F__law_size (mCons (mKeepX (mCall F__law_draw (mCons (mKeep (mVar 0)) (mCons (mKeep (mVar 1)) mNil)))) mNil))))))
def m__law_word : MoS :=
  (mSeq (mSet 2 (mCall F__law_size (mCons (mKeep (mVar 1)) mNil)))
    (mSeq (mPar2 3 4 (mPv (mCall F__law_draw (mCons (mKeep (mVar 0)) (mCons (mKeep (mVar 2)) mNil)))) (mPv (mX (mC (.int 0)))))
    (mSeq (mFor (mRg1 (mCons (mKeepX (mCall F__law_draw (mCons (mKeep (mVar 0)) (mCons (mKeep (mC (.int 4))) mNil)))) mNil)) (gN 5)
    b1__law_word [5])
    (mSeq (mSet 6 (mX (mOp2 (iC divC fun i j => i / j) (mVar 2) (mC (.int 2)))))
    (mSeq (mSet 7 (mLst (mCons (mKeep (mC (.int 0))) (mCons (mKeep (mOp2 (iI fun i j => i - j) (mVar 2) (mC (.int 1)))) (mCons (mKeep (mVar 6)) (mCons (mKeep (mIf (mTest (mOp2 (iB fun i j => decide (j < i)) (mVar 6) (mC (.int 0)))) (mOp2 (iI fun i j => i - j) (mVar 6) (mC (.int 1))) (mC (.int 0)))) (mCons (mKeep (mIf (mTest (mOp2 (iB fun i j => decide (j < i)) (mVar 2) (mC (.int 1)))) (mC (.int 1)) (mC (.int 0)))) (mCons (mKeep (mOp2 (iI fun i j => i - j) (mOp2 (iI fun i j => i - j) (mVar 2) (mC (.int 1))) (mVar 4))) (mCons (mKeep (mVar 4)) mNil)))))))))
    (mRet (mCall F__law_any (mCons (mKeep (mVar 0)) (mCons (mKeepX (mOpG fAdd (mVar 7) (mFz (mLst (mCons (mKeep (mVar 3)) (mCons (mKeep (mVar 3)) (mCons (mKeep (mVar 3)) (mCons (mKeep (mVar 3)) mNil)))))))) mNil)))))))))
def F__law_word : Fm := fnM 8 m__law_word
theorem body__law_word {T : List (Addr × Str)} {P : Program} {w : World} {K : PySem.W.Frag} {mg : Str → Option Value} {base : Heap} (Z : Zs K mg) (G__law_any : Cal P w K mg base T "_law_any" 2 F__law_any 2) (G__law_draw : Cal P w K mg base T "_law_draw" 2 F__law_draw 1) (G__law_size : Cal P w K mg base T "_law_size" 1 F__law_size 1) (f : Addr) (cdv : Value) (A : Around) (outer : List Env) (s : Shared) (H : Hp) (B : Bs) (E : XK) (hr : L2.Room 2 (A.deeper (envOfC "_law_word" (defScope s__law_word) s.heap.objs.size f cdv))) (nd : Fact' (["hand", "width", "size", "drawn", "few", "turn", "half", "near"] : List Str).Nodup) :
    SSE (cxD P w K mg base ["hand", "width", "size", "drawn", "few", "turn", "half", "near"] "_law_word" (defScope s__law_word) f cdv A outer s H E) ⟨⟨K, mg, T⟩, (["hand", "width", "size", "drawn", "few", "turn", "half", "near"] : List Str).length, B, H⟩ (WD E) (defBody s__law_word) m__law_word := by
  have hu := hr.units
  have hu5 := hr.units5
  exact (sse_cons (st 2 (ge_call (G__law_size.k hr (by decide)) rfl (ae_cons (de_keep (v 1)) ae_nil) rfl (hms := (mCons_len mNil_len))))
    (sse_cons (se_par2 3 4 rfl rfl (by decide) rfl rfl (xe_of (ge_call (G__law_draw.k hr (by decide)) rfl (ae_cons (de_keep (v 0)) (ae_cons (de_keep (v 2)) ae_nil)) rfl (hms := (mCons_len (mCons_len mNil_len))))) (xe_of (ge_e ee_int)))
    (sse_cons (se_for (vs := [5]) [5] (ie_range1 rfl Z.z_range (ae_cons (de_keepX (ge_call (G__law_draw.k hr (by decide)) rfl (ae_cons (de_keep (v 0)) (ae_cons (de_keep ee_int) ae_nil)) rfl (hms := (mCons_len (mCons_len mNil_len))))) ae_nil)) (tn 5)
    (sse_one (st 4 (ge_e (ee_op2 ok_or (v 4) (ee_fz (ge_call (G__law_size.k hr (by decide)) rfl (ae_cons (de_keepX (ge_call (G__law_draw.k hr (by decide)) rfl (ae_cons (de_keep (v 0)) (ae_cons (de_keep (v 1)) ae_nil)) rfl (hms := (mCons_len (mCons_len mNil_len))))) ae_nil) rfl (hms := (mCons_len mNil_len)))))))))
    (sse_cons (st 6 (ge_e (ee_op2 ok_div (v 2) ee_int)))
    (sse_cons (st 7 (ge_lst (ae_cons (de_keep ee_int) (ae_cons (de_keep (ee_op2 ok_sub (v 2) ee_int)) (ae_cons (de_keep (v 6)) (ae_cons (de_keep (ee_if (te_cmp ok_gt (v 6) ee_int (nomark _)) (ee_op2 ok_sub (v 6) ee_int) ee_int)) (ae_cons (de_keep (ee_if (te_cmp ok_gt (v 2) ee_int (nomark _)) ee_int ee_int)) (ae_cons (de_keep (ee_op2 ok_sub (ee_op2 ok_sub (v 2) ee_int) (v 4))) (ae_cons (de_keep (v 4)) ae_nil)))))))))
    (sse_one (se_ret (ge_call (G__law_any.k hr (by decide)) rfl (ae_cons (de_keep (v 0)) (ae_cons (de_keepX (ge_op2 ok_add (v 7) (ee_fz (ge_lst (ae_cons (de_keep (v 3)) (ae_cons (de_keep (v 3)) (ae_cons (de_keep (v 3)) (ae_cons (de_keep (v 3)) ae_nil)))))))) ae_nil)) rfl (hms := (mCons_len (mCons_len mNil_len)))))))))))
theorem cal__law_word {T : List (Addr × Str)} {P : Program} {w : World} {K : PySem.W.Frag} {mg : Str → Option Value} {base : Heap} (Dx : DefAt K mg "_law_word" s__law_word ["hand", "width"]) (Z : Zs K mg) (G__law_any : Cal P w K mg base T "_law_any" 2 F__law_any 2) (G__law_draw : Cal P w K mg base T "_law_draw" 2 F__law_draw 1) (G__law_size : Cal P w K mg base T "_law_size" 1 F__law_size 1) : Cal P w K mg base T "_law_word" 2 F__law_word 3 :=
  have h : Cal P w K mg base T "_law_word" (["hand", "width"] : List Str).length (fnM (["hand", "width", "size", "drawn", "few", "turn", "half", "near"] : List Str).length m__law_word) (2 + 1) := cal_of Dx sc__law_word (by decide) (k := 2) (m := m__law_word) fun f fd cdv A outer s H B E hr nd => body__law_word Z G__law_any G__law_draw G__law_size f cdv A outer s H B E hr nd
  h
abbrev s__law_bits : Stmt := topS 44
theorem sc__law_bits : FnScope ["width", "word", "found", "turn"] ["width", "word"] (defScope s__law_bits) := ⟨rfl, rfl, rfl, by decide +kernel, rfl, by decide +kernel, by decide +kernel⟩
def b1__law_bits : MoS :=
  (mSeq (mAppend (mVar 2) (mKeep (mOp2 (iC (fun _ j => decide (0 < j)) fun i j => i % j) (mFz (mCB fInt (vCons (mVar 1) vNil))) (mC (.int 2)))))
    (mSet 1 (mX (mOp2 (iC divC fun i j => i / j) (mVar 1) (mC (.int 2))))))
def m__law_bits : MoS :=
  (mSeq (mSet 2 (mLst mNil))
    (mSeq (mFor (mRg1 (mCons (mKeep (mVar 0)) mNil)) (gN 3)
    b1__law_bits [3])
    (mRet (mX (mVar 2)))))
def F__law_bits : Fm := fnM 4 m__law_bits
theorem body__law_bits {T : List (Addr × Str)} {P : Program} {w : World} {K : PySem.W.Frag} {mg : Str → Option Value} {base : Heap} (Z : Zs K mg)  (f : Addr) (cdv : Value) (A : Around) (outer : List Env) (s : Shared) (H : Hp) (B : Bs) (E : XK) (hr : L2.Room 0 (A.deeper (envOfC "_law_bits" (defScope s__law_bits) s.heap.objs.size f cdv))) (nd : Fact' (["width", "word", "found", "turn"] : List Str).Nodup) :
    SSE (cxD P w K mg base ["width", "word", "found", "turn"] "_law_bits" (defScope s__law_bits) f cdv A outer s H E) ⟨⟨K, mg, T⟩, (["width", "word", "found", "turn"] : List Str).length, B, H⟩ (WD E) (defBody s__law_bits) m__law_bits := by
  have hu := hr.units
  have hu5 := hr.units5
  exact (sse_cons (st 2 (ge_lst ae_nil))
    (sse_cons (se_for (vs := [3]) [3] (ie_range1 rfl Z.z_range (ae_cons (de_keep (v 0)) ae_nil)) (tn 3)
    (sse_cons (se_append (v 2) (de_keep (ee_op2 ok_mod (ee_fz (ge_callTy ok_int rfl Z.z_int (by decide +kernel) (ve_cons (v 1) ve_nil))) ee_int)))
    (sse_one (st 1 (ge_e (ee_op2 ok_div (v 1) ee_int))))))
    (sse_one (se_ret (ge_e (v 2))))))
theorem cal__law_bits {T : List (Addr × Str)} {P : Program} {w : World} {K : PySem.W.Frag} {mg : Str → Option Value} {base : Heap} (Dx : DefAt K mg "_law_bits" s__law_bits ["width", "word"]) (Z : Zs K mg)  : Cal P w K mg base T "_law_bits" 2 F__law_bits 1 :=
  have h : Cal P w K mg base T "_law_bits" (["width", "word"] : List Str).length (fnM (["width", "word", "found", "turn"] : List Str).length m__law_bits) (0 + 1) := cal_of Dx sc__law_bits (by decide) (k := 0) (m := m__law_bits) fun f fd cdv A outer s H B E hr nd => body__law_bits Z  f cdv A outer s H B E hr nd
  h
abbrev s__law_number : Stmt := topS 45
theorem sc__law_number : FnScope ["bits", "found", "bit"] ["bits"] (defScope s__law_number) := ⟨rfl, rfl, rfl, by decide +kernel, rfl, by decide +kernel, by decide +kernel⟩
def b1__law_number : MoS :=
  (mSet 1 (mOpG fAdd (mOp2 (iC mulC fun i j => i * j) (mC (.int 2)) (mVar 1)) (mVar 2)))
def m__law_number : MoS :=
  (mSeq (mSet 1 (mX (mC (.int 0))))
    (mSeq (mFor (mIt (mKeepX (mRevA (mVar 0)))) (gN 2)
    b1__law_number [2])
    (mRet (mX (mVar 1)))))
def F__law_number : Fm := fnM 3 m__law_number
theorem body__law_number {T : List (Addr × Str)} {P : Program} {w : World} {K : PySem.W.Frag} {mg : Str → Option Value} {base : Heap} (Z : Zs K mg)  (f : Addr) (cdv : Value) (A : Around) (outer : List Env) (s : Shared) (H : Hp) (B : Bs) (E : XK) (hr : L2.Room 0 (A.deeper (envOfC "_law_number" (defScope s__law_number) s.heap.objs.size f cdv))) (nd : Fact' (["bits", "found", "bit"] : List Str).Nodup) :
    SSE (cxD P w K mg base ["bits", "found", "bit"] "_law_number" (defScope s__law_number) f cdv A outer s H E) ⟨⟨K, mg, T⟩, (["bits", "found", "bit"] : List Str).length, B, H⟩ (WD E) (defBody s__law_number) m__law_number := by
  have hu := hr.units
  have hu5 := hr.units5
  exact (sse_cons (st 1 (ge_e ee_int))
    (sse_cons (se_for (vs := [2]) [2] (ie_seq (de_keepX (ge_revA (v 0)))) (tn 2)
    (sse_one (st 1 (ge_op2 ok_add (ee_op2 ok_mulI ee_int (v 1)) (v 2)))))
    (sse_one (se_ret (ge_e (v 1))))))
theorem cal__law_number {T : List (Addr × Str)} {P : Program} {w : World} {K : PySem.W.Frag} {mg : Str → Option Value} {base : Heap} (Dx : DefAt K mg "_law_number" s__law_number ["bits"]) (Z : Zs K mg)  : Cal P w K mg base T "_law_number" 1 F__law_number 1 :=
  have h : Cal P w K mg base T "_law_number" (["bits"] : List Str).length (fnM (["bits", "found", "bit"] : List Str).length m__law_number) (0 + 1) := cal_of Dx sc__law_number (by decide) (k := 0) (m := m__law_number) fun f fd cdv A outer s H B E hr nd => body__law_number Z  f cdv A outer s H B E hr nd
  h
abbrev s__law_order : Stmt := topS 46
theorem sc__law_order : FnScope ["hand", "width", "kind", "row", "turn", "one", "other"] ["hand", "width"] (defScope s__law_order) := ⟨rfl, rfl, rfl, by decide +kernel, rfl, by decide +kernel, by decide +kernel⟩
def b1__law_order : MoS :=
  (mSeq (mPar2 5 6 (mPv (mCall F__law_draw (mCons (mKeep (mVar 0)) (mCons (mKeep (mVar 1)) mNil)))) (mPv (mCall F__law_draw (mCons (mKeep (mVar 0)) (mCons (mKeep (mVar 1)) mNil)))))
    (mAsg (mKeep (mTup (mCons (mKeep (mOp2 fIx (mVar 3) (mVar 6))) (mCons (mKeep (mOp2 fIx (mVar 3) (mVar 5))) mNil)))) (gT 2 (gsC (gS (mVar 3) (mVar 5)) (gsC (gS (mVar 3) (mVar 6)) gsN)))))
def m__law_order : MoS :=
  (mSeq (mSet 2 (mCall F__law_draw (mCons (mKeep (mVar 0)) (mCons (mKeep (mC (.int 4))) mNil))))
    (mSeq (mIfS (mTest (mOp2 (iB fun i j => decide (j < i)) (mVar 2) (mC (.int 1))))
    (mRet (mCB fTuple (vCons (mFz (mCall F__law_shuffled (mCons (mKeep (mVar 0)) (mCons (mKeepX (mLR (mRa1 (mCons (mKeep (mVar 1)) mNil)))) mNil)))) vNil)))
    mSkip)
    (mSeq (mSet 3 (mLR (mRa1 (mCons (mKeep (mVar 1)) mNil))))
    (mSeq (mFor (mRg1 (mCons (mKeepX (mCall F__law_draw (mCons (mKeep (mVar 0)) (mCons (mKeep (mC (.int 4))) mNil)))) mNil)) (gN 4)
    b1__law_order [4, 5, 6])
    (mRet (mCB fTuple (vCons (mFz (mIf (mTest (mOp2 fEq (mVar 2) (mC (.int 0)))) (mX (mVar 3)) (mOpG fAdd (mFz (mSl (mVar 3) (mPart (mC (.int 1))) mNoPart)) (mFz (mSl (mVar 3) mNoPart (mPart (mC (.int 1)))))))) vNil)))))))
def F__law_order : Fm := fnM 7 m__law_order
theorem body__law_order {T : List (Addr × Str)} {P : Program} {w : World} {K : PySem.W.Frag} {mg : Str → Option Value} {base : Heap} (Z : Zs K mg) (G__law_draw : Cal P w K mg base T "_law_draw" 2 F__law_draw 1) (G__law_shuffled : Cal P w K mg base T "_law_shuffled" 2 F__law_shuffled 2) (f : Addr) (cdv : Value) (A : Around) (outer : List Env) (s : Shared) (H : Hp) (B : Bs) (E : XK) (hr : L2.Room 2 (A.deeper (envOfC "_law_order" (defScope s__law_order) s.heap.objs.size f cdv))) (nd : Fact' (["hand", "width", "kind", "row", "turn", "one", "other"] : List Str).Nodup) :
    SSE (cxD P w K mg base ["hand", "width", "kind", "row", "turn", "one", "other"] "_law_order" (defScope s__law_order) f cdv A outer s H E) ⟨⟨K, mg, T⟩, (["hand", "width", "kind", "row", "turn", "one", "other"] : List Str).length, B, H⟩ (WD E) (defBody s__law_order) m__law_order := by
  have hu := hr.units
  have hu5 := hr.units5
  exact (sse_cons (st 2 (ge_call (G__law_draw.k hr (by decide)) rfl (ae_cons (de_keep (v 0)) (ae_cons (de_keep ee_int) ae_nil)) rfl (hms := (mCons_len (mCons_len mNil_len)))))
    (sse_cons (se_if (te_cmp ok_gt (v 2) ee_int (nomark _))
    (sse_one (se_ret (ge_callTy ok_tuple rfl Z.z_tuple (by decide +kernel) (ve_cons (ee_fz (ge_call (G__law_shuffled.k hr (by decide)) rfl (ae_cons (de_keep (v 0)) (ae_cons (de_keepX (ge_listR rfl Z.z_list (re_1 rfl Z.z_range (ae_cons (de_keep (v 1)) ae_nil)))) ae_nil)) rfl (hms := (mCons_len (mCons_len mNil_len))))) ve_nil))))
    sse_nil)
    (sse_cons (st 3 (ge_listR rfl Z.z_list (re_1 rfl Z.z_range (ae_cons (de_keep (v 1)) ae_nil))))
    (sse_cons (se_for (vs := [4]) [4, 5, 6] (ie_range1 rfl Z.z_range (ae_cons (de_keepX (ge_call (G__law_draw.k hr (by decide)) rfl (ae_cons (de_keep (v 0)) (ae_cons (de_keep ee_int) ae_nil)) rfl (hms := (mCons_len (mCons_len mNil_len))))) ae_nil)) (tn 4)
    (sse_cons (se_par2 5 6 rfl rfl (by decide) rfl rfl (xe_of (ge_call (G__law_draw.k hr (by decide)) rfl (ae_cons (de_keep (v 0)) (ae_cons (de_keep (v 1)) ae_nil)) rfl (hms := (mCons_len (mCons_len mNil_len))))) (xe_of (ge_call (G__law_draw.k hr (by decide)) rfl (ae_cons (de_keep (v 0)) (ae_cons (de_keep (v 1)) ae_nil)) rfl (hms := (mCons_len (mCons_len mNil_len))))))
    (sse_one (se_asg (vs := []) (de_keep (ee_tup (ae_cons (de_keep (ee_ix (v 3) (v 6))) (ae_cons (de_keep (ee_ix (v 3) (v 5))) ae_nil)))) (tg_tup (tgs_cons (tg_sub (v 3) (v 5)) (tgs_cons (tg_sub (v 3) (v 6)) tgs_nil)))))))
    (sse_one (se_ret (ge_callTy ok_tuple rfl Z.z_tuple (by decide +kernel) (ve_cons (ee_fz (ge_if (te_cmp (ok_eq hu) (v 2) ee_int (nomark _)) (ge_e (v 3)) (ge_op2 ok_add (ee_fz (ge_sl (v 3) (oe_some ee_int) oe_none)) (ee_fz (ge_sl (v 3) oe_none (oe_some ee_int)))))) ve_nil))))))))
theorem cal__law_order {T : List (Addr × Str)} {P : Program} {w : World} {K : PySem.W.Frag} {mg : Str → Option Value} {base : Heap} (Dx : DefAt K mg "_law_order" s__law_order ["hand", "width"]) (Z : Zs K mg) (G__law_draw : Cal P w K mg base T "_law_draw" 2 F__law_draw 1) (G__law_shuffled : Cal P w K mg base T "_law_shuffled" 2 F__law_shuffled 2) : Cal P w K mg base T "_law_order" 2 F__law_order 3 :=
  have h : Cal P w K mg base T "_law_order" (["hand", "width"] : List Str).length (fnM (["hand", "width", "kind", "row", "turn", "one", "other"] : List Str).length m__law_order) (2 + 1) := cal_of Dx sc__law_order (by decide) (k := 2) (m := m__law_order) fun f fd cdv A outer s H B E hr nd => body__law_order Z G__law_draw G__law_shuffled f cdv A outer s H B E hr nd
  h
abbrev s__law_laid : Stmt := topS 47
theorem sc__law_laid : FnScope ["width", "order", "word", "bits", "place"] ["width", "order", "word"] (defScope s__law_laid) := ⟨rfl, rfl, rfl, by decide +kernel, rfl, by decide +kernel, by decide +kernel⟩
def m__law_laid : MoS :=
  (mSeq (mSet 3 (mCall F__law_bits (mCons (mKeep (mVar 0)) (mCons (mKeep (mVar 2)) mNil))))
    (mRet (mCall F__law_number (mCons (mKeepX (mLc (mIt (mKeep (mVar 1))) (gN 4) mYes (mKeep (mOp2 fIx (mVar 3) (mVar 4))) [4])) mNil))))
def F__law_laid : Fm := fnM 5 m__law_laid
theorem body__law_laid {T : List (Addr × Str)} {P : Program} {w : World} {K : PySem.W.Frag} {mg : Str → Option Value} {base : Heap} (Z : Zs K mg) (G__law_number : Cal P w K mg base T "_law_number" 1 F__law_number 1) (G__law_bits : Cal P w K mg base T "_law_bits" 2 F__law_bits 1) (f : Addr) (cdv : Value) (A : Around) (outer : List Env) (s : Shared) (H : Hp) (B : Bs) (E : XK) (hr : L2.Room 1 (A.deeper (envOfC "_law_laid" (defScope s__law_laid) s.heap.objs.size f cdv))) (nd : Fact' (["width", "order", "word", "bits", "place"] : List Str).Nodup) :
    SSE (cxD P w K mg base ["width", "order", "word", "bits", "place"] "_law_laid" (defScope s__law_laid) f cdv A outer s H E) ⟨⟨K, mg, T⟩, (["width", "order", "word", "bits", "place"] : List Str).length, B, H⟩ (WD E) (defBody s__law_laid) m__law_laid := by
  have hu := hr.units
  have hu5 := hr.units5
  exact (sse_cons (st 3 (ge_call (G__law_bits.k hr (by decide)) rfl (ae_cons (de_keep (v 0)) (ae_cons (de_keep (v 2)) ae_nil)) rfl (hms := (mCons_len (mCons_len mNil_len)))))
    (sse_one (se_ret (ge_call (G__law_number.k hr (by decide)) rfl (ae_cons (de_keepX (ge_lc (own := [("place", 4)]) (ie_seq (de_keep (v 1))) (blkOk_by (by kernel_rfl)) (fun _ _ _ _ _ => (tn 4)) (fun _ _ _ _ _ => tt_nil) (fun _ _ _ _ _ => (de_keep (ee_ix (v 3) (v 4)))))) ae_nil) rfl (hms := (mCons_len mNil_len))))))
theorem cal__law_laid {T : List (Addr × Str)} {P : Program} {w : World} {K : PySem.W.Frag} {mg : Str → Option Value} {base : Heap} (Dx : DefAt K mg "_law_laid" s__law_laid ["width", "order", "word"]) (Z : Zs K mg) (G__law_number : Cal P w K mg base T "_law_number" 1 F__law_number 1) (G__law_bits : Cal P w K mg base T "_law_bits" 2 F__law_bits 1) : Cal P w K mg base T "_law_laid" 3 F__law_laid 2 :=
  have h : Cal P w K mg base T "_law_laid" (["width", "order", "word"] : List Str).length (fnM (["width", "order", "word", "bits", "place"] : List Str).length m__law_laid) (1 + 1) := cal_of Dx sc__law_laid (by decide) (k := 1) (m := m__law_laid) fun f fd cdv A outer s H B E hr nd => body__law_laid Z G__law_number G__law_bits f cdv A outer s H B E hr nd
  h
abbrev s__law_fits : Stmt := topS 48
theorem sc__law_fits : FnScope ["width", "mask", "steps"] ["width", "mask", "steps"] (defScope s__law_fits) := ⟨rfl, rfl, rfl, by decide +kernel, rfl, by decide +kernel, by decide +kernel⟩
def m__law_fits : MoS :=
  (mRet (mX (mAndV (mOp2 (iB fun i j => decide (i < j)) (mOp2 (iC mulC fun i j => i * j) (mVar 1) (mFz (mCall F__law_size (mCons (mKeep (mVar 2)) mNil)))) (mFz (mCall F__law_size (mCons (mKeep (mVar 0)) mNil)))) (mOp2 fEq (mOp2 (iI Builtin.bitAnd) (mVar 1) (mOp2 (iC mulC fun i j => i * j) (mVar 1) (mFz (mCall F__law_size (mCons (mKeep (mVar 2)) mNil))))) (mC (.int 0))))))
def F__law_fits : Fm := fnM 3 m__law_fits
theorem body__law_fits {T : List (Addr × Str)} {P : Program} {w : World} {K : PySem.W.Frag} {mg : Str → Option Value} {base : Heap} (Z : Zs K mg) (G__law_size : Cal P w K mg base T "_law_size" 1 F__law_size 1) (f : Addr) (cdv : Value) (A : Around) (outer : List Env) (s : Shared) (H : Hp) (B : Bs) (E : XK) (hr : L2.Room 1 (A.deeper (envOfC "_law_fits" (defScope s__law_fits) s.heap.objs.size f cdv))) (nd : Fact' (["width", "mask", "steps"] : List Str).Nodup) :
    SSE (cxD P w K mg base ["width", "mask", "steps"] "_law_fits" (defScope s__law_fits) f cdv A outer s H E) ⟨⟨K, mg, T⟩, (["width", "mask", "steps"] : List Str).length, B, H⟩ (WD E) (defBody s__law_fits) m__law_fits := by
  have hu := hr.units
  have hu5 := hr.units5
  exact (sse_one (se_ret (ge_e (ee_and (ee_cmp ok_lt (ee_op2 ok_mulI (v 1) (ee_fz (ge_call (G__law_size.k hr (by decide)) rfl (ae_cons (de_keep (v 2)) ae_nil) rfl (hms := (mCons_len mNil_len))))) (ee_fz (ge_call (G__law_size.k hr (by decide)) rfl (ae_cons (de_keep (v 0)) ae_nil) rfl (hms := (mCons_len mNil_len)))) (nomark _)) (ee_one (ee_cmp (ok_eq hu) (ee_op2 ok_and (v 1) (ee_op2 ok_mulI (v 1) (ee_fz (ge_call (G__law_size.k hr (by decide)) rfl (ae_cons (de_keep (v 2)) ae_nil) rfl (hms := (mCons_len mNil_len)))))) ee_int (nomark _)))))))
theorem cal__law_fits {T : List (Addr × Str)} {P : Program} {w : World} {K : PySem.W.Frag} {mg : Str → Option Value} {base : Heap} (Dx : DefAt K mg "_law_fits" s__law_fits ["width", "mask", "steps"]) (Z : Zs K mg) (G__law_size : Cal P w K mg base T "_law_size" 1 F__law_size 1) : Cal P w K mg base T "_law_fits" 3 F__law_fits 2 :=
  have h : Cal P w K mg base T "_law_fits" (["width", "mask", "steps"] : List Str).length (fnM (["width", "mask", "steps"] : List Str).length m__law_fits) (1 + 1) := cal_of Dx sc__law_fits (by decide) (k := 1) (m := m__law_fits) fun f fd cdv A outer s H B E hr nd => body__law_fits Z G__law_size f cdv A outer s H B E hr nd
  h
abbrev s__law_levels : Stmt := topS 49
theorem sc__law_levels : FnScope ["hand", "width", "most", "found", "turn", "steps", "mask", "place", "other"] ["hand", "width", "most"] (defScope s__law_levels) := ⟨rfl, rfl, rfl, by decide +kernel, rfl, by decide +kernel, by decide +kernel⟩
def b1__law_levels : MoS :=
  (mSeq (mSet 8 (mOpG fAdd (mVar 6) (mFz (mCall F__law_size (mCons (mKeep (mVar 7)) mNil)))))
    (mIfS (mAnd (mTest (mOp2 fEq (mFz (mCall F__law_draw (mCons (mKeep (mVar 0)) (mCons (mKeep (mC (.int 2))) mNil)))) (mC (.int 0)))) (mAnd (mTest (mOp2 (iB fun i j => decide (i < j)) (mVar 6) (mFz (mCall F__law_size (mCons (mKeep (mVar 7)) mNil))))) (mTest (mOp2 fEq (mOp2 (iI Builtin.bitAnd) (mVar 8) (mOp2 (iC mulC fun i j => i * j) (mVar 8) (mFz (mCall F__law_size (mCons (mKeep (mVar 5)) mNil))))) (mC (.int 0))))))
    (mSet 6 (mX (mVar 8)))
    mSkip))
def b2__law_levels : MoS :=
  (mSeq (mPar2 5 6 (mPv (mX (mOp2 (iI fun i j => i + j) (mC (.int 1)) (mFz (mCall F__law_draw (mCons (mKeep (mVar 0)) (mCons (mKeep (mOp2 (iI fun i j => i - j) (mVar 1) (mC (.int 1)))) mNil))))))) (mPv (mX (mC (.int 0)))))
    (mSeq (mFor (mRg1 (mCons (mKeep (mOp2 (iI fun i j => i - j) (mVar 1) (mVar 5))) mNil)) (gN 7)
    b1__law_levels [7, 8])
    (mAppend (mVar 3) (mKeep (mTup (mCons (mKeep (mVar 6)) (mCons (mKeep (mVar 5)) mNil)))))))
def m__law_levels : MoS :=
  (mSeq (mSet 3 (mLst mNil))
    (mSeq (mFor (mRg1 (mCons (mKeepX (mIf (mTest (mOp2 (iB fun i j => decide (j < i)) (mVar 1) (mC (.int 1)))) (mCall F__law_draw (mCons (mKeep (mVar 0)) (mCons (mKeep (mOp2 (iI fun i j => i + j) (mVar 2) (mC (.int 1)))) mNil))) (mX (mC (.int 0))))) mNil)) (gN 4)
    b2__law_levels [4, 5, 6, 7, 8])
    (mRet (mCB fTuple (vCons (mVar 3) vNil)))))
def F__law_levels : Fm := fnM 9 m__law_levels
theorem body__law_levels {T : List (Addr × Str)} {P : Program} {w : World} {K : PySem.W.Frag} {mg : Str → Option Value} {base : Heap} (Z : Zs K mg) (G__law_draw : Cal P w K mg base T "_law_draw" 2 F__law_draw 1) (G__law_size : Cal P w K mg base T "_law_size" 1 F__law_size 1) (f : Addr) (cdv : Value) (A : Around) (outer : List Env) (s : Shared) (H : Hp) (B : Bs) (E : XK) (hr : L2.Room 1 (A.deeper (envOfC "_law_levels" (defScope s__law_levels) s.heap.objs.size f cdv))) (nd : Fact' (["hand", "width", "most", "found", "turn", "steps", "mask", "place", "other"] : List Str).Nodup) :
    SSE (cxD P w K mg base ["hand", "width", "most", "found", "turn", "steps", "mask", "place", "other"] "_law_levels" (defScope s__law_levels) f cdv A outer s H E) ⟨⟨K, mg, T⟩, (["hand", "width", "most", "found", "turn", "steps", "mask", "place", "other"] : List Str).length, B, H⟩ (WD E) (defBody s__law_levels) m__law_levels := by
  have hu := hr.units
  have hu5 := hr.units5
  exact (sse_cons (st 3 (ge_lst ae_nil))
    (sse_cons (se_for (vs := [4]) [4, 5, 6, 7, 8] (ie_range1 rfl Z.z_range (ae_cons (de_keepX (ge_if (te_cmp ok_gt (v 1) ee_int (nomark _)) (ge_call (G__law_draw.k hr (by decide)) rfl (ae_cons (de_keep (v 0)) (ae_cons (de_keep (ee_op2 ok_addI (v 2) ee_int)) ae_nil)) rfl (hms := (mCons_len (mCons_len mNil_len)))) (ge_e ee_int))) ae_nil)) (tn 4)
    (sse_cons (se_par2 5 6 rfl rfl (by decide) rfl rfl (xe_of (ge_e (ee_op2 ok_addI ee_int (ee_fz (ge_call (G__law_draw.k hr (by decide)) rfl (ae_cons (de_keep (v 0)) (ae_cons (de_keep (ee_op2 ok_sub (v 1) ee_int)) ae_nil)) rfl (hms := (mCons_len (mCons_len mNil_len)))))))) (xe_of (ge_e ee_int)))
    (sse_cons (se_for (vs := [7]) [7, 8] (ie_range1 rfl Z.z_range (ae_cons (de_keep (ee_op2 ok_sub (v 1) (v 5))) ae_nil)) (tn 7)
    (sse_cons (st 8 (ge_op2 ok_add (v 6) (ee_fz (ge_call (G__law_size.k hr (by decide)) rfl (ae_cons (de_keep (v 7)) ae_nil) rfl (hms := (mCons_len mNil_len))))))
    (sse_one (se_if (te_w (we_and (te_cmp (ok_eq hu) (ee_fz (ge_call (G__law_draw.k hr (by decide)) rfl (ae_cons (de_keep (v 0)) (ae_cons (de_keep ee_int) ae_nil)) rfl (hms := (mCons_len (mCons_len mNil_len))))) ee_int (nomark _)) (we_and (te_cmp ok_lt (v 6) (ee_fz (ge_call (G__law_size.k hr (by decide)) rfl (ae_cons (de_keep (v 7)) ae_nil) rfl (hms := (mCons_len mNil_len)))) (nomark _)) (we_and1 (te_cmp (ok_eq hu) (ee_op2 ok_and (v 8) (ee_op2 ok_mulI (v 8) (ee_fz (ge_call (G__law_size.k hr (by decide)) rfl (ae_cons (de_keep (v 5)) ae_nil) rfl (hms := (mCons_len mNil_len)))))) ee_int (nomark _))))))
    (sse_one (st 6 (ge_e (v 8))))
    sse_nil))))
    (sse_one (se_append (v 3) (de_keep (ee_tup (ae_cons (de_keep (v 6)) (ae_cons (de_keep (v 5)) ae_nil)))))))))
    (sse_one (se_ret (ge_callTy ok_tuple rfl Z.z_tuple (by decide +kernel) (ve_cons (v 3) ve_nil))))))
theorem cal__law_levels {T : List (Addr × Str)} {P : Program} {w : World} {K : PySem.W.Frag} {mg : Str → Option Value} {base : Heap} (Dx : DefAt K mg "_law_levels" s__law_levels ["hand", "width", "most"]) (Z : Zs K mg) (G__law_draw : Cal P w K mg base T "_law_draw" 2 F__law_draw 1) (G__law_size : Cal P w K mg base T "_law_size" 1 F__law_size 1) : Cal P w K mg base T "_law_levels" 3 F__law_levels 2 :=
  have h : Cal P w K mg base T "_law_levels" (["hand", "width", "most"] : List Str).length (fnM (["hand", "width", "most", "found", "turn", "steps", "mask", "place", "other"] : List Str).length m__law_levels) (1 + 1) := cal_of Dx sc__law_levels (by decide) (k := 1) (m := m__law_levels) fun f fd cdv A outer s H B E hr nd => body__law_levels Z G__law_draw G__law_size f cdv A outer s H B E hr nd
  h
abbrev s__law_exchanged : Stmt := topS 50
theorem sc__law_exchanged : FnScope ["word", "mask", "steps", "both"] ["word", "mask", "steps"] (defScope s__law_exchanged) := ⟨rfl, rfl, rfl, by decide +kernel, rfl, by decide +kernel, by decide +kernel⟩
def m__law_exchanged : MoS :=
  (mSeq (mSet 3 (mX (mOp2 (iI Builtin.bitAnd) (mOp2 (iI Builtin.bitXor) (mOp2 (iC divC fun i j => i / j) (mVar 0) (mFz (mCall F__law_size (mCons (mKeep (mVar 2)) mNil)))) (mVar 0)) (mVar 1))))
    (mRet (mX (mOp2 (iI Builtin.bitXor) (mOp2 (iI Builtin.bitXor) (mVar 0) (mVar 3)) (mOp2 (iC mulC fun i j => i * j) (mVar 3) (mFz (mCall F__law_size (mCons (mKeep (mVar 2)) mNil))))))))
def F__law_exchanged : Fm := fnM 4 m__law_exchanged
theorem body__law_exchanged {T : List (Addr × Str)} {P : Program} {w : World} {K : PySem.W.Frag} {mg : Str → Option Value} {base : Heap} (Z : Zs K mg) (G__law_size : Cal P w K mg base T "_law_size" 1 F__law_size 1) (f : Addr) (cdv : Value) (A : Around) (outer : List Env) (s : Shared) (H : Hp) (B : Bs) (E : XK) (hr : L2.Room 1 (A.deeper (envOfC "_law_exchanged" (defScope s__law_exchanged) s.heap.objs.size f cdv))) (nd : Fact' (["word", "mask", "steps", "both"] : List Str).Nodup) :
    SSE (cxD P w K mg base ["word", "mask", "steps", "both"] "_law_exchanged" (defScope s__law_exchanged) f cdv A outer s H E) ⟨⟨K, mg, T⟩, (["word", "mask", "steps", "both"] : List Str).length, B, H⟩ (WD E) (defBody s__law_exchanged) m__law_exchanged := by
  have hu := hr.units
  have hu5 := hr.units5
  exact (sse_cons (st 3 (ge_e (ee_op2 ok_and (ee_op2 ok_xor (ee_op2 ok_div (v 0) (ee_fz (ge_call (G__law_size.k hr (by decide)) rfl (ae_cons (de_keep (v 2)) ae_nil) rfl (hms := (mCons_len mNil_len))))) (v 0)) (v 1))))
    (sse_one (se_ret (ge_e (ee_op2 ok_xor (ee_op2 ok_xor (v 0) (v 3)) (ee_op2 ok_mulI (v 3) (ee_fz (ge_call (G__law_size.k hr (by decide)) rfl (ae_cons (de_keep (v 2)) ae_nil) rfl (hms := (mCons_len mNil_len))))))))))
theorem cal__law_exchanged {T : List (Addr × Str)} {P : Program} {w : World} {K : PySem.W.Frag} {mg : Str → Option Value} {base : Heap} (Dx : DefAt K mg "_law_exchanged" s__law_exchanged ["word", "mask", "steps"]) (Z : Zs K mg) (G__law_size : Cal P w K mg base T "_law_size" 1 F__law_size 1) : Cal P w K mg base T "_law_exchanged" 3 F__law_exchanged 2 :=
  have h : Cal P w K mg base T "_law_exchanged" (["word", "mask", "steps"] : List Str).length (fnM (["word", "mask", "steps", "both"] : List Str).length m__law_exchanged) (1 + 1) := cal_of Dx sc__law_exchanged (by decide) (k := 1) (m := m__law_exchanged) fun f fd cdv A outer s H B E hr nd => body__law_exchanged Z G__law_size f cdv A outer s H B E hr nd
  h
abbrev s__law_are_levels : Stmt := topS 51
theorem sc__law_are_levels : FnScope ["width", "thing", "pair"] ["width", "thing"] (defScope s__law_are_levels) := ⟨rfl, rfl, rfl, by decide +kernel, rfl, by decide +kernel, by decide +kernel⟩
def b1__law_are_levels : MoS :=
  (mSeq (mIfS (mOr (mNot (mTest (mIsi .tup (mVar 2)))) (mOr (mTest (mOp2 fNe (mFz (mCB fLen (vCons (mVar 2) vNil))) (mC (.int 2)))) (mOr (mNot (mTest (mFz (mCall F__law_is_int (mCons (mKeep (mOp2 fIx (mVar 2) (mC (.int 0)))) mNil))))) (mNot (mTest (mFz (mCall F__law_is_int (mCons (mKeep (mOp2 fIx (mVar 2) (mC (.int 1)))) mNil))))))))
    (mRet (mX (mC (.bl false))))
    mSkip)
    (mIfS (mOr (mNot (mTest (mChain (iB fun i j => decide (i ≤ j)) (iB fun i j => decide (i < j)) (mC (.int 0)) (mOp2 fIx (mVar 2) (mC (.int 0))) (mFz (mCall F__law_size (mCons (mKeep (mVar 0)) mNil)))))) (mOr (mNot (mTest (mChain (iB fun i j => decide (i ≤ j)) (iB fun i j => decide (i ≤ j)) (mC (.int 1)) (mOp2 fIx (mVar 2) (mC (.int 1))) (mVar 0)))) (mNot (mTest (mFz (mCall F__law_fits (mCons (mKeep (mVar 0)) (mCons (mKeep (mOp2 fIx (mVar 2) (mC (.int 0)))) (mCons (mKeep (mOp2 fIx (mVar 2) (mC (.int 1)))) mNil)))))))))
    (mRet (mX (mC (.bl false))))
    mSkip))
def m__law_are_levels : MoS :=
  (mSeq (mIfS (mOr (mNot (mTest (mIsi .tup (mVar 1)))) (mTest (mOp2 (iB fun i j => decide (j < i)) (mFz (mCB fLen (vCons (mVar 1) vNil))) (mC (.int 100)))))
    (mRet (mX (mC (.bl false))))
    mSkip)
    (mSeq (mFor (mIt (mKeep (mVar 1))) (gN 2)
    b1__law_are_levels [2])
    (mRet (mX (mC (.bl true))))))
def F__law_are_levels : Fm := fnM 3 m__law_are_levels
theorem body__law_are_levels {T : List (Addr × Str)} {P : Program} {w : World} {K : PySem.W.Frag} {mg : Str → Option Value} {base : Heap} (Z : Zs K mg) (G__law_size : Cal P w K mg base T "_law_size" 1 F__law_size 1) (G__law_fits : Cal P w K mg base T "_law_fits" 3 F__law_fits 2) (G__law_is_int : Cal P w K mg base T "_law_is_int" 1 F__law_is_int 1) (f : Addr) (cdv : Value) (A : Around) (outer : List Env) (s : Shared) (H : Hp) (B : Bs) (E : XK) (hr : L2.Room 2 (A.deeper (envOfC "_law_are_levels" (defScope s__law_are_levels) s.heap.objs.size f cdv))) (nd : Fact' (["width", "thing", "pair"] : List Str).Nodup) :
    SSE (cxD P w K mg base ["width", "thing", "pair"] "_law_are_levels" (defScope s__law_are_levels) f cdv A outer s H E) ⟨⟨K, mg, T⟩, (["width", "thing", "pair"] : List Str).length, B, H⟩ (WD E) (defBody s__law_are_levels) m__law_are_levels := by
  have hu := hr.units
  have hu5 := hr.units5
  exact (sse_cons (se_if (te_w (we_or (te_not (te_val (ee_isi .tup (by decide) rfl Z.z_isinstance (by decide +kernel) (v 1) rfl Z.z_tuple (by decide +kernel)))) (we_or1 (te_cmp ok_gt (ee_fz (ge_callB ok_len rfl Z.z_len (by decide +kernel) (ve_cons (v 1) ve_nil))) ee_int (nomark _)))))
    (sse_one (se_ret (ge_e ee_bl)))
    sse_nil)
    (sse_cons (se_for (vs := [2]) [2] (ie_seq (de_keep (v 1))) (tn 2)
    (sse_cons (se_if (te_w (we_or (te_not (te_val (ee_isi .tup (by decide) rfl Z.z_isinstance (by decide +kernel) (v 2) rfl Z.z_tuple (by decide +kernel)))) (we_or (te_cmp (ok_ne hu) (ee_fz (ge_callB ok_len rfl Z.z_len (by decide +kernel) (ve_cons (v 2) ve_nil))) ee_int (nomark _)) (we_or (te_not (te_val (ee_fz (ge_call (G__law_is_int.k hr (by decide)) rfl (ae_cons (de_keep (ee_ix (v 2) ee_int)) ae_nil) rfl (hms := (mCons_len mNil_len)))))) (we_or1 (te_not (te_val (ee_fz (ge_call (G__law_is_int.k hr (by decide)) rfl (ae_cons (de_keep (ee_ix (v 2) ee_int)) ae_nil) rfl (hms := (mCons_len mNil_len)))))))))))
    (sse_one (se_ret (ge_e ee_bl)))
    sse_nil)
    (sse_one (se_if (te_w (we_or (te_not (te_chain ok_le ok_lt ee_int (ee_ix (v 2) ee_int) (ee_fz (ge_call (G__law_size.k hr (by decide)) rfl (ae_cons (de_keep (v 0)) ae_nil) rfl (hms := (mCons_len mNil_len)))))) (we_or (te_not (te_chain ok_le ok_le ee_int (ee_ix (v 2) ee_int) (v 0))) (we_or1 (te_not (te_val (ee_fz (ge_call (G__law_fits.k hr (by decide)) rfl (ae_cons (de_keep (v 0)) (ae_cons (de_keep (ee_ix (v 2) ee_int)) (ae_cons (de_keep (ee_ix (v 2) ee_int)) ae_nil))) rfl (hms := (mCons_len (mCons_len (mCons_len mNil_len))))))))))))
    (sse_one (se_ret (ge_e ee_bl)))
    sse_nil))))
    (sse_one (se_ret (ge_e ee_bl)))))
theorem cal__law_are_levels {T : List (Addr × Str)} {P : Program} {w : World} {K : PySem.W.Frag} {mg : Str → Option Value} {base : Heap} (Dx : DefAt K mg "_law_are_levels" s__law_are_levels ["width", "thing"]) (Z : Zs K mg) (G__law_size : Cal P w K mg base T "_law_size" 1 F__law_size 1) (G__law_fits : Cal P w K mg base T "_law_fits" 3 F__law_fits 2) (G__law_is_int : Cal P w K mg base T "_law_is_int" 1 F__law_is_int 1) : Cal P w K mg base T "_law_are_levels" 2 F__law_are_levels 3 :=
  have h : Cal P w K mg base T "_law_are_levels" (["width", "thing"] : List Str).length (fnM (["width", "thing", "pair"] : List Str).length m__law_are_levels) (2 + 1) := cal_of Dx sc__law_are_levels (by decide) (k := 2) (m := m__law_are_levels) fun f fd cdv A outer s H B E hr nd => body__law_are_levels Z G__law_size G__law_fits G__law_is_int f cdv A outer s H B E hr nd
  h
abbrev s__law_levels_right : Stmt := topS 52
theorem sc__law_levels_right : FnScope ["hand", "width", "levels", "word", "due", "row", "mask", "steps", "there", "place", "bit", "order"] ["hand", "width"] (defScope s__law_levels_right) := ⟨rfl, rfl, rfl, by decide +kernel, rfl, by decide +kernel, by decide +kernel⟩
def b1__law_levels_right : MoS :=
  (mIfS (mTest (mOp2 fEq (mVar 10) (mC (.int 1))))
    (mAsg (mKeep (mTup (mCons (mKeep (mOp2 fIx (mVar 5) (mFz (mOpG fAdd (mVar 9) (mVar 7))))) (mCons (mKeep (mOp2 fIx (mVar 5) (mVar 9))) mNil)))) (gT 2 (gsC (gS (mVar 5) (mVar 9)) (gsC (gS (mVar 5) (mFz (mOpG fAdd (mVar 9) (mVar 7)))) gsN))))
    mSkip)
def b2__law_levels_right : MoS :=
  (mSeq (mSet 8 (mCall F_exchanged (mCons (mKeep (mVar 1)) (mCons (mKeep (mVar 4)) (mCons (mKeep (mVar 6)) (mCons (mKeep (mVar 7)) mNil))))))
    (mSeq (mIfS (mOr (mNot (mTest (mFz (mCall F__law_is (mCons (mKeep (mVar 8)) (mCons (mKeepX (mCall F__law_exchanged (mCons (mKeep (mVar 4)) (mCons (mKeep (mVar 6)) (mCons (mKeep (mVar 7)) mNil))))) mNil)))))) (mTest (mOp2 fNe (mFz (mCall F_exchanged (mCons (mKeep (mVar 1)) (mCons (mKeep (mVar 8)) (mCons (mKeep (mVar 6)) (mCons (mKeep (mVar 7)) mNil)))))) (mVar 4))))
    (mRet (mX (mC (.bl false))))
    mSkip)
    (mSeq (mSet 4 (mX (mVar 8)))
    (mFor (mEnumK (mCons (mKeepX (mCall F__law_bits (mCons (mKeep (mVar 1)) (mCons (mKeep (mVar 6)) mNil)))) mNil)) (gT 2 (gsC (gN 9) (gsC (gN 10) gsN)))
    b1__law_levels_right [9, 10]))))
def m__law_levels_right : MoS :=
  (mSeq (mPar2 2 3 (mPv (mCall F__law_levels (mCons (mKeep (mVar 0)) (mCons (mKeep (mVar 1)) (mCons (mKeepX (mCall F__law_any (mCons (mKeep (mVar 0)) (mCons (mKeepX (mLst (mCons (mKeep (mC (.int 3))) (mCons (mKeep (mC (.int 12))) mNil)))) mNil)))) mNil))))) (mPv (mCall F__law_word (mCons (mKeep (mVar 0)) (mCons (mKeep (mVar 1)) mNil)))))
    (mSeq (mIfS (mTest (mOp2 (fIsN true) (mFz (mCall F_are_levels (mCons (mKeep (mVar 1)) (mCons (mKeep (mVar 2)) mNil)))) (mC (.bl true))))
    (mRet (mX (mC (.bl false))))
    mSkip)
    (mSeq (mPar2 4 5 (mPv (mX (mVar 3))) (mPv (mLR (mRa1 (mCons (mKeep (mVar 1)) mNil)))))
    (mSeq (mFor (mIt (mKeep (mVar 2))) (gT 2 (gsC (gN 6) (gsC (gN 7) gsN)))
    b2__law_levels_right [6, 7, 8, 9, 10])
    (mSeq (mSet 11 (mCall F_order_of_levels (mCons (mKeep (mVar 1)) (mCons (mKeep (mVar 2)) mNil))))
    (mSeq (mIfS (mNot (mTest (mFz (mCall F__law_is (mCons (mKeepX (mLst (mCons (mKeepX (mCall F_by_levels (mCons (mKeep (mVar 1)) (mCons (mKeep (mVar 2)) (mCons (mKeep (mVar 3)) mNil))))) (mCons (mKeep (mVar 11)) mNil)))) (mCons (mKeepX (mLst (mCons (mKeep (mVar 4)) (mCons (mKeepX (mCB fTuple (vCons (mVar 5) vNil))) mNil)))) mNil))))))
    (mRet (mX (mC (.bl false))))
    mSkip)
    (mRet (mX (mAndV (mOp2 fEq (mFz (mCall F_laid (mCons (mKeep (mVar 1)) (mCons (mKeep (mVar 11)) (mCons (mKeep (mVar 3)) mNil))))) (mVar 4)) (mOp2 (fIsN false) (mFz (mCall F_are_levels_for (mCons (mKeep (mVar 1)) (mCons (mKeep (mVar 11)) (mCons (mKeep (mVar 2)) mNil))))) (mC (.bl true))))))))))))
def F__law_levels_right : Fm := fnM 12 m__law_levels_right
theorem body__law_levels_right {T : List (Addr × Str)} {P : Program} {w : World} {K : PySem.W.Frag} {mg : Str → Option Value} {base : Heap} (Z : Zs K mg) (G_laid : Cal P w K mg base T "laid" 3 F_laid 6) (G_are_levels_for : Cal P w K mg base T "are_levels_for" 3 F_are_levels_for 6) (G__law_is : Cal P w K mg base T "_law_is" 2 F__law_is 7) (G_by_levels : Cal P w K mg base T "by_levels" 3 F_by_levels 6) (G_order_of_levels : Cal P w K mg base T "order_of_levels" 2 F_order_of_levels 5) (G__law_bits : Cal P w K mg base T "_law_bits" 2 F__law_bits 1) (G__law_exchanged : Cal P w K mg base T "_law_exchanged" 3 F__law_exchanged 2) (G_exchanged : Cal P w K mg base T "exchanged" 4 F_exchanged 6) (G_are_levels : Cal P w K mg base T "are_levels" 2 F_are_levels 4) (G__law_levels : Cal P w K mg base T "_law_levels" 3 F__law_levels 2) (G__law_any : Cal P w K mg base T "_law_any" 2 F__law_any 2) (G__law_word : Cal P w K mg base T "_law_word" 2 F__law_word 3) (f : Addr) (cdv : Value) (A : Around) (outer : List Env) (s : Shared) (H : Hp) (B : Bs) (E : XK) (hr : L2.Room 7 (A.deeper (envOfC "_law_levels_right" (defScope s__law_levels_right) s.heap.objs.size f cdv))) (nd : Fact' (["hand", "width", "levels", "word", "due", "row", "mask", "steps", "there", "place", "bit", "order"] : List Str).Nodup) :
    SSE (cxD P w K mg base ["hand", "width", "levels", "word", "due", "row", "mask", "steps", "there", "place", "bit", "order"] "_law_levels_right" (defScope s__law_levels_right) f cdv A outer s H E) ⟨⟨K, mg, T⟩, (["hand", "width", "levels", "word", "due", "row", "mask", "steps", "there", "place", "bit", "order"] : List Str).length, B, H⟩ (WD E) (defBody s__law_levels_right) m__law_levels_right := by
  have hu := hr.units
  have hu5 := hr.units5
  exact (sse_cons (se_par2 2 3 rfl rfl (by decide) rfl rfl (xe_of (ge_call (G__law_levels.k hr (by decide)) rfl (ae_cons (de_keep (v 0)) (ae_cons (de_keep (v 1)) (ae_cons (de_keepX (ge_call (G__law_any.k hr (by decide)) rfl (ae_cons (de_keep (v 0)) (ae_cons (de_keepX (ge_lst (ae_cons (de_keep ee_int) (ae_cons (de_keep ee_int) ae_nil)))) ae_nil)) rfl (hms := (mCons_len (mCons_len mNil_len))))) ae_nil))) rfl (hms := (mCons_len (mCons_len (mCons_len mNil_len)))))) (xe_of (ge_call (G__law_word.k hr (by decide)) rfl (ae_cons (de_keep (v 0)) (ae_cons (de_keep (v 1)) ae_nil)) rfl (hms := (mCons_len (mCons_len mNil_len))))))
    (sse_cons (se_if (te_cmp ok_isnot (ee_fz (ge_call (G_are_levels.k hr (by decide)) rfl (ae_cons (de_keep (v 1)) (ae_cons (de_keep (v 2)) ae_nil)) rfl (hms := (mCons_len (mCons_len mNil_len))))) ee_bl (nomark _))
    (sse_one (se_ret (ge_e ee_bl)))
    sse_nil)
    (sse_cons (se_par2 4 5 rfl rfl (by decide) rfl rfl (xe_of (ge_e (v 3))) (xe_of (ge_listR rfl Z.z_list (re_1 rfl Z.z_range (ae_cons (de_keep (v 1)) ae_nil)))))
    (sse_cons (se_for (vs := [6, 7]) [6, 7, 8, 9, 10] (ie_seq (de_keep (v 2))) (tg_tup (tgs_cons (tn 6) (tgs_cons (tn 7) tgs_nil)))
    (sse_cons (st 8 (ge_call (G_exchanged.k hr (by decide)) rfl (ae_cons (de_keep (v 1)) (ae_cons (de_keep (v 4)) (ae_cons (de_keep (v 6)) (ae_cons (de_keep (v 7)) ae_nil)))) rfl (hms := (mCons_len (mCons_len (mCons_len (mCons_len mNil_len)))))))
    (sse_cons (se_if (te_w (we_or (te_not (te_val (ee_fz (ge_call (G__law_is.k hr (by decide)) rfl (ae_cons (de_keep (v 8)) (ae_cons (de_keepX (ge_call (G__law_exchanged.k hr (by decide)) rfl (ae_cons (de_keep (v 4)) (ae_cons (de_keep (v 6)) (ae_cons (de_keep (v 7)) ae_nil))) rfl (hms := (mCons_len (mCons_len (mCons_len mNil_len)))))) ae_nil)) rfl (hms := (mCons_len (mCons_len mNil_len))))))) (we_or1 (te_cmp (ok_ne hu) (ee_fz (ge_call (G_exchanged.k hr (by decide)) rfl (ae_cons (de_keep (v 1)) (ae_cons (de_keep (v 8)) (ae_cons (de_keep (v 6)) (ae_cons (de_keep (v 7)) ae_nil)))) rfl (hms := (mCons_len (mCons_len (mCons_len (mCons_len mNil_len))))))) (v 4) (nomark _)))))
    (sse_one (se_ret (ge_e ee_bl)))
    sse_nil)
    (sse_cons (st 4 (ge_e (v 8)))
    (sse_one (se_for (vs := [9, 10]) [9, 10] (ie_enumK rfl Z.z_enumerate (ae_cons (de_keepX (ge_call (G__law_bits.k hr (by decide)) rfl (ae_cons (de_keep (v 1)) (ae_cons (de_keep (v 6)) ae_nil)) rfl (hms := (mCons_len (mCons_len mNil_len))))) ae_nil)) (tg_tup (tgs_cons (tn 9) (tgs_cons (tn 10) tgs_nil)))
    (sse_one (se_if (te_cmp (ok_eq hu) (v 10) ee_int (nomark _))
    (sse_one (se_asg (vs := []) (de_keep (ee_tup (ae_cons (de_keep (ee_ix (v 5) (ee_fz (ge_op2 ok_add (v 9) (v 7))))) (ae_cons (de_keep (ee_ix (v 5) (v 9))) ae_nil)))) (tg_tup (tgs_cons (tg_sub (v 5) (v 9)) (tgs_cons (tg_sub (v 5) (ee_fz (ge_op2 ok_add (v 9) (v 7)))) tgs_nil)))))
    sse_nil))))))))
    (sse_cons (st 11 (ge_call (G_order_of_levels.k hr (by decide)) rfl (ae_cons (de_keep (v 1)) (ae_cons (de_keep (v 2)) ae_nil)) rfl (hms := (mCons_len (mCons_len mNil_len)))))
    (sse_cons (se_if (te_not (te_val (ee_fz (ge_call (G__law_is.k hr (by decide)) rfl (ae_cons (de_keepX (ge_lst (ae_cons (de_keepX (ge_call (G_by_levels.k hr (by decide)) rfl (ae_cons (de_keep (v 1)) (ae_cons (de_keep (v 2)) (ae_cons (de_keep (v 3)) ae_nil))) rfl (hms := (mCons_len (mCons_len (mCons_len mNil_len)))))) (ae_cons (de_keep (v 11)) ae_nil)))) (ae_cons (de_keepX (ge_lst (ae_cons (de_keep (v 4)) (ae_cons (de_keepX (ge_callTy ok_tuple rfl Z.z_tuple (by decide +kernel) (ve_cons (v 5) ve_nil))) ae_nil)))) ae_nil)) rfl (hms := (mCons_len (mCons_len mNil_len)))))))
    (sse_one (se_ret (ge_e ee_bl)))
    sse_nil)
    (sse_one (se_ret (ge_e (ee_and (ee_cmp (ok_eq hu) (ee_fz (ge_call (G_laid.k hr (by decide)) rfl (ae_cons (de_keep (v 1)) (ae_cons (de_keep (v 11)) (ae_cons (de_keep (v 3)) ae_nil))) rfl (hms := (mCons_len (mCons_len (mCons_len mNil_len)))))) (v 4) (nomark _)) (ee_one (ee_cmp ok_is (ee_fz (ge_call (G_are_levels_for.k hr (by decide)) rfl (ae_cons (de_keep (v 1)) (ae_cons (de_keep (v 11)) (ae_cons (de_keep (v 2)) ae_nil))) rfl (hms := (mCons_len (mCons_len (mCons_len mNil_len)))))) ee_bl (nomark _)))))))))))))
theorem cal__law_levels_right {T : List (Addr × Str)} {P : Program} {w : World} {K : PySem.W.Frag} {mg : Str → Option Value} {base : Heap} (Dx : DefAt K mg "_law_levels_right" s__law_levels_right ["hand", "width"]) (Z : Zs K mg) (G_laid : Cal P w K mg base T "laid" 3 F_laid 6) (G_are_levels_for : Cal P w K mg base T "are_levels_for" 3 F_are_levels_for 6) (G__law_is : Cal P w K mg base T "_law_is" 2 F__law_is 7) (G_by_levels : Cal P w K mg base T "by_levels" 3 F_by_levels 6) (G_order_of_levels : Cal P w K mg base T "order_of_levels" 2 F_order_of_levels 5) (G__law_bits : Cal P w K mg base T "_law_bits" 2 F__law_bits 1) (G__law_exchanged : Cal P w K mg base T "_law_exchanged" 3 F__law_exchanged 2) (G_exchanged : Cal P w K mg base T "exchanged" 4 F_exchanged 6) (G_are_levels : Cal P w K mg base T "are_levels" 2 F_are_levels 4) (G__law_levels : Cal P w K mg base T "_law_levels" 3 F__law_levels 2) (G__law_any : Cal P w K mg base T "_law_any" 2 F__law_any 2) (G__law_word : Cal P w K mg base T "_law_word" 2 F__law_word 3) : Cal P w K mg base T "_law_levels_right" 2 F__law_levels_right 8 :=
  have h : Cal P w K mg base T "_law_levels_right" (["hand", "width"] : List Str).length (fnM (["hand", "width", "levels", "word", "due", "row", "mask", "steps", "there", "place", "bit", "order"] : List Str).length m__law_levels_right) (7 + 1) := cal_of Dx sc__law_levels_right (by decide) (k := 7) (m := m__law_levels_right) fun f fd cdv A outer s H B E hr nd => body__law_levels_right Z G_laid G_are_levels_for G__law_is G_by_levels G_order_of_levels G__law_bits G__law_exchanged G_exchanged G_are_levels G__law_levels G__law_any G__law_word f cdv A outer s H B E hr nd
  h
abbrev s__law_order_right : Stmt := topS 53
theorem sc__law_order_right : FnScope ["hand", "width", "order", "told", "log", "word", "here", "mask", "steps", "other"] ["hand", "width", "order"] (defScope s__law_order_right) := ⟨rfl, rfl, rfl, by decide +kernel, rfl, by decide +kernel, by decide +kernel⟩
def b1__law_order_right : MoS :=
  (mSet 6 (mCall F__law_exchanged (mCons (mKeep (mVar 6)) (mCons (mKeep (mVar 7)) (mCons (mKeep (mVar 8)) mNil)))))
def t2__law_order_right : Mo Bool :=
  (mTest (mOp2 (iB fun i j => decide (i < j)) (mFz (mCall F__law_size (mCons (mKeep (mVar 4)) mNil))) (mVar 1)))
def b3__law_order_right : MoS :=
  (mSet 4 (mX (mOp2 (iI fun i j => i + j) (mVar 4) (mC (.int 1)))))
def m__law_order_right : MoS :=
  (mSeq (mPar2 3 4 (mPv (mCall F_levels_for (mCons (mKeep (mVar 1)) (mCons (mKeep (mVar 2)) mNil)))) (mPv (mX (mC (.int 0)))))
    (mSeq (mWhile t2__law_order_right
    b3__law_order_right [])
    (mSeq (mIfS (mOr (mNot (mTest (mFz (mCall F__law_are_levels (mCons (mKeep (mVar 1)) (mCons (mKeep (mVar 3)) mNil)))))) (mTest (mOp2 (iB fun i j => decide (j < i)) (mFz (mCB fLen (vCons (mVar 3) vNil))) (mFz (mCB fMax2 (vCons (mC (.int 0)) (vCons (mOp2 (iI fun i j => i - j) (mOp2 (iC mulC fun i j => i * j) (mC (.int 2)) (mVar 4)) (mC (.int 1))) vNil)))))))
    (mRet (mX (mC (.bl false))))
    mSkip)
    (mSeq (mSet 5 (mCall F__law_word (mCons (mKeep (mVar 0)) (mCons (mKeep (mVar 1)) mNil))))
    (mSeq (mSet 6 (mX (mVar 5)))
    (mSeq (mFor (mIt (mKeep (mVar 3))) (gT 2 (gsC (gN 7) (gsC (gN 8) gsN)))
    b1__law_order_right [7, 8])
    (mSeq (mIfS (mOr (mTest (mOp2 fNe (mVar 6) (mFz (mCall F__law_laid (mCons (mKeep (mVar 1)) (mCons (mKeep (mVar 2)) (mCons (mKeep (mVar 5)) mNil))))))) (mTest (mOp2 fNe (mFz (mCall F_order_of_levels (mCons (mKeep (mVar 1)) (mCons (mKeep (mVar 3)) mNil)))) (mVar 2))))
    (mRet (mX (mC (.bl false))))
    mSkip)
    (mSeq (mSet 9 (mCall F__law_order (mCons (mKeep (mVar 0)) (mCons (mKeep (mVar 1)) mNil))))
    (mSeq (mIfS (mTest (mOp2 (fIsN true) (mFz (mCall F_are_levels_for (mCons (mKeep (mVar 1)) (mCons (mKeep (mVar 2)) (mCons (mKeep (mVar 3)) mNil))))) (mC (.bl true))))
    (mRet (mX (mC (.bl false))))
    mSkip)
    (mRet (mCall F__law_is (mCons (mKeepX (mCall F_are_levels_for (mCons (mKeep (mVar 1)) (mCons (mKeep (mVar 9)) (mCons (mKeep (mVar 3)) mNil))))) (mCons (mKeep (mOp2 fEq (mVar 9) (mVar 2))) mNil)))))))))))))
def F__law_order_right : Fm := fnM 10 m__law_order_right
theorem body__law_order_right {T : List (Addr × Str)} {P : Program} {w : World} {K : PySem.W.Frag} {mg : Str → Option Value} {base : Heap} (Z : Zs K mg) (G__law_is : Cal P w K mg base T "_law_is" 2 F__law_is 7) (G_are_levels_for : Cal P w K mg base T "are_levels_for" 3 F_are_levels_for 6) (G__law_order : Cal P w K mg base T "_law_order" 2 F__law_order 3) (G__law_laid : Cal P w K mg base T "_law_laid" 3 F__law_laid 2) (G_order_of_levels : Cal P w K mg base T "order_of_levels" 2 F_order_of_levels 5) (G__law_exchanged : Cal P w K mg base T "_law_exchanged" 3 F__law_exchanged 2) (G__law_word : Cal P w K mg base T "_law_word" 2 F__law_word 3) (G__law_are_levels : Cal P w K mg base T "_law_are_levels" 2 F__law_are_levels 3) (G__law_size : Cal P w K mg base T "_law_size" 1 F__law_size 1) (G_levels_for : Cal P w K mg base T "levels_for" 2 F_levels_for 9) (f : Addr) (cdv : Value) (A : Around) (outer : List Env) (s : Shared) (H : Hp) (B : Bs) (E : XK) (hr : L2.Room 9 (A.deeper (envOfC "_law_order_right" (defScope s__law_order_right) s.heap.objs.size f cdv))) (nd : Fact' (["hand", "width", "order", "told", "log", "word", "here", "mask", "steps", "other"] : List Str).Nodup) :
    SSE (cxD P w K mg base ["hand", "width", "order", "told", "log", "word", "here", "mask", "steps", "other"] "_law_order_right" (defScope s__law_order_right) f cdv A outer s H E) ⟨⟨K, mg, T⟩, (["hand", "width", "order", "told", "log", "word", "here", "mask", "steps", "other"] : List Str).length, B, H⟩ (WD E) (defBody s__law_order_right) m__law_order_right := by
  have hu := hr.units
  have hu5 := hr.units5
  exact (sse_cons (se_par2 3 4 rfl rfl (by decide) rfl rfl (xe_of (ge_call (G_levels_for.k hr (by decide)) rfl (ae_cons (de_keep (v 1)) (ae_cons (de_keep (v 2)) ae_nil)) rfl (hms := (mCons_len (mCons_len mNil_len))))) (xe_of (ge_e ee_int)))
    (sse_cons (se_while [] (te_cmp ok_lt (ee_fz (ge_call (G__law_size.k hr (by decide)) rfl (ae_cons (de_keep (v 4)) ae_nil) rfl (hms := (mCons_len mNil_len)))) (v 1) (nomark _))
    (sse_one (st 4 (ge_e (ee_op2 ok_addI (v 4) ee_int)))))
    (sse_cons (se_if (te_w (we_or (te_not (te_val (ee_fz (ge_call (G__law_are_levels.k hr (by decide)) rfl (ae_cons (de_keep (v 1)) (ae_cons (de_keep (v 3)) ae_nil)) rfl (hms := (mCons_len (mCons_len mNil_len))))))) (we_or1 (te_cmp ok_gt (ee_fz (ge_callB ok_len rfl Z.z_len (by decide +kernel) (ve_cons (v 3) ve_nil))) (ee_fz (ge_callB ok_max2 rfl Z.z_max (by decide +kernel) (ve_cons ee_int (ve_cons (ee_op2 ok_sub (ee_op2 ok_mulI ee_int (v 4)) ee_int) ve_nil)))) (nomark _)))))
    (sse_one (se_ret (ge_e ee_bl)))
    sse_nil)
    (sse_cons (st 5 (ge_call (G__law_word.k hr (by decide)) rfl (ae_cons (de_keep (v 0)) (ae_cons (de_keep (v 1)) ae_nil)) rfl (hms := (mCons_len (mCons_len mNil_len)))))
    (sse_cons (st 6 (ge_e (v 5)))
    (sse_cons (se_for (vs := [7, 8]) [7, 8] (ie_seq (de_keep (v 3))) (tg_tup (tgs_cons (tn 7) (tgs_cons (tn 8) tgs_nil)))
    (sse_one (st 6 (ge_call (G__law_exchanged.k hr (by decide)) rfl (ae_cons (de_keep (v 6)) (ae_cons (de_keep (v 7)) (ae_cons (de_keep (v 8)) ae_nil))) rfl (hms := (mCons_len (mCons_len (mCons_len mNil_len))))))))
    (sse_cons (se_if (te_w (we_or (te_cmp (ok_ne hu) (v 6) (ee_fz (ge_call (G__law_laid.k hr (by decide)) rfl (ae_cons (de_keep (v 1)) (ae_cons (de_keep (v 2)) (ae_cons (de_keep (v 5)) ae_nil))) rfl (hms := (mCons_len (mCons_len (mCons_len mNil_len)))))) (nomark _)) (we_or1 (te_cmp (ok_ne hu) (ee_fz (ge_call (G_order_of_levels.k hr (by decide)) rfl (ae_cons (de_keep (v 1)) (ae_cons (de_keep (v 3)) ae_nil)) rfl (hms := (mCons_len (mCons_len mNil_len))))) (v 2) (nomark _)))))
    (sse_one (se_ret (ge_e ee_bl)))
    sse_nil)
    (sse_cons (st 9 (ge_call (G__law_order.k hr (by decide)) rfl (ae_cons (de_keep (v 0)) (ae_cons (de_keep (v 1)) ae_nil)) rfl (hms := (mCons_len (mCons_len mNil_len)))))
    (sse_cons (se_if (te_cmp ok_isnot (ee_fz (ge_call (G_are_levels_for.k hr (by decide)) rfl (ae_cons (de_keep (v 1)) (ae_cons (de_keep (v 2)) (ae_cons (de_keep (v 3)) ae_nil))) rfl (hms := (mCons_len (mCons_len (mCons_len mNil_len)))))) ee_bl (nomark _))
    (sse_one (se_ret (ge_e ee_bl)))
    sse_nil)
    (sse_one (se_ret (ge_call (G__law_is.k hr (by decide)) rfl (ae_cons (de_keepX (ge_call (G_are_levels_for.k hr (by decide)) rfl (ae_cons (de_keep (v 1)) (ae_cons (de_keep (v 9)) (ae_cons (de_keep (v 3)) ae_nil))) rfl (hms := (mCons_len (mCons_len (mCons_len mNil_len)))))) (ae_cons (de_keep (ee_cmp (ok_eq hu) (v 9) (v 2) (nomark _))) ae_nil)) rfl (hms := (mCons_len (mCons_len mNil_len)))))))))))))))
theorem cal__law_order_right {T : List (Addr × Str)} {P : Program} {w : World} {K : PySem.W.Frag} {mg : Str → Option Value} {base : Heap} (Dx : DefAt K mg "_law_order_right" s__law_order_right ["hand", "width", "order"]) (Z : Zs K mg) (G__law_is : Cal P w K mg base T "_law_is" 2 F__law_is 7) (G_are_levels_for : Cal P w K mg base T "are_levels_for" 3 F_are_levels_for 6) (G__law_order : Cal P w K mg base T "_law_order" 2 F__law_order 3) (G__law_laid : Cal P w K mg base T "_law_laid" 3 F__law_laid 2) (G_order_of_levels : Cal P w K mg base T "order_of_levels" 2 F_order_of_levels 5) (G__law_exchanged : Cal P w K mg base T "_law_exchanged" 3 F__law_exchanged 2) (G__law_word : Cal P w K mg base T "_law_word" 2 F__law_word 3) (G__law_are_levels : Cal P w K mg base T "_law_are_levels" 2 F__law_are_levels 3) (G__law_size : Cal P w K mg base T "_law_size" 1 F__law_size 1) (G_levels_for : Cal P w K mg base T "levels_for" 2 F_levels_for 9) : Cal P w K mg base T "_law_order_right" 3 F__law_order_right 10 :=
  have h : Cal P w K mg base T "_law_order_right" (["hand", "width", "order"] : List Str).length (fnM (["hand", "width", "order", "told", "log", "word", "here", "mask", "steps", "other"] : List Str).length m__law_order_right) (9 + 1) := cal_of Dx sc__law_order_right (by decide) (k := 9) (m := m__law_order_right) fun f fd cdv A outer s H B E hr nd => body__law_order_right Z G__law_is G_are_levels_for G__law_order G__law_laid G_order_of_levels G__law_exchanged G__law_word G__law_are_levels G__law_size G_levels_for f cdv A outer s H B E hr nd
  h
abbrev s_law : Stmt := topS 54
theorem sc_law : FnScope ["script", "hand", "turn", "width", "word", "order", "found"] ["script"] (defScope s_law) := ⟨rfl, rfl, rfl, by decide +kernel, rfl, by decide +kernel, by decide +kernel⟩
def b1_law : MoS :=
  (mIfS (mNot (mTest (mFz (mCall F__law_order_right (mCons (mKeep (mVar 1)) (mCons (mKeep (mVar 3)) (mCons (mKeep (mVar 5)) mNil)))))))
    (mRet (mX (mC (.bl false))))
    mSkip)
def b2_law : MoS :=
  (mSeq (mIfS (mNot (mTest (mFz (mCall F__law_levels_right (mCons (mKeep (mVar 1)) (mCons (mKeepX (mCall F__law_width (mCons (mKeep (mVar 1)) mNil))) mNil))))))
    (mRet (mX (mC (.bl false))))
    mSkip)
    (mSeq (mSet 3 (mCall F__law_any (mCons (mKeep (mVar 1)) (mCons (mKeepX (mLst (mCons (mKeep (mC (.int 1))) (mCons (mKeep (mC (.int 2))) (mCons (mKeep (mC (.int 4))) (mCons (mKeep (mC (.int 8))) (mCons (mKeep (mC (.int 16))) (mCons (mKeep (mC (.int 32))) (mCons (mKeep (mC (.int 64))) mNil))))))))) mNil))))
    (mSeq (mSet 4 (mCall F__law_any (mCons (mKeep (mVar 1)) (mCons (mKeepX (mLst (mCons (mKeep (mC (.str "mirror"))) (mCons (mKeep (mC (.str "turn"))) (mCons (mKeep (mC (.str "evens"))) (mCons (mKeep (mC (.str "halves"))) mNil)))))) mNil))))
    (mFor (mIt (mKeep (mTup (mCons (mKeepX (mCall F__law_order (mCons (mKeep (mVar 1)) (mCons (mKeep (mVar 3)) mNil)))) (mCons (mKeepX (mCall F_known_order (mCons (mKeep (mVar 4)) (mCons (mKeep (mVar 3)) mNil)))) mNil))))) (gN 5)
    b1_law [5]))))
def m_law : MoS :=
  (mSeq (mSet 1 (mX (mLive (mCall F__law_hand (mCons (mKeep (mVar 0)) mNil)))))
    (mSeq (mFor (mRg1 (mCons (mKeep (mC (.int 5))) mNil)) (gN 2)
    b2_law [2, 3, 4, 5])
    (mSeq (mSet 6 (mLst (mCons (mKeepX (mCall F_exchanged (mCons (mKeep (mC (.int 8))) (mCons (mKeep (mC (.int 178))) (mCons (mKeep (mC (.int 5))) (mCons (mKeep (mC (.int 4))) mNil)))))) (mCons (mKeepX (mCall F_order_of_levels (mCons (mKeep (mC (.int 4))) (mCons (mKeep (mTup (mCons (mKeep (mTup (mCons (mKeep (mC (.int 5))) (mCons (mKeep (mC (.int 1))) mNil)))) (mCons (mKeep (mTup (mCons (mKeep (mC (.int 3))) (mCons (mKeep (mC (.int 2))) mNil)))) mNil)))) mNil)))) (mCons (mKeepX (mCall F_by_levels (mCons (mKeep (mC (.int 4))) (mCons (mKeep (mTup (mCons (mKeep (mTup (mCons (mKeep (mC (.int 5))) (mCons (mKeep (mC (.int 1))) mNil)))) (mCons (mKeep (mTup (mCons (mKeep (mC (.int 3))) (mCons (mKeep (mC (.int 2))) mNil)))) mNil)))) (mCons (mKeep (mC (.int 2))) mNil))))) mNil)))))
    (mRet (mCall F__law_is (mCons (mKeep (mVar 6)) (mCons (mKeepX (mLst (mCons (mKeep (mC (.int 163))) (mCons (mKeep (mTup (mCons (mKeep (mC (.int 3))) (mCons (mKeep (mC (.int 2))) (mCons (mKeep (mC (.int 1))) (mCons (mKeep (mC (.int 0))) mNil)))))) (mCons (mKeep (mC (.int 4))) mNil))))) mNil)))))))
def F_law : Fm := fnM 7 m_law
theorem body_law {T : List (Addr × Str)} {P : Program} {w : World} {K : PySem.W.Frag} {mg : Str → Option Value} {base : Heap} (Z : Zs K mg) (G__law_is : Cal P w K mg base T "_law_is" 2 F__law_is 7) (G_exchanged : Cal P w K mg base T "exchanged" 4 F_exchanged 6) (G_order_of_levels : Cal P w K mg base T "order_of_levels" 2 F_order_of_levels 5) (G_by_levels : Cal P w K mg base T "by_levels" 3 F_by_levels 6) (G__law_order : Cal P w K mg base T "_law_order" 2 F__law_order 3) (G_known_order : Cal P w K mg base T "known_order" 2 F_known_order 4) (G__law_order_right : Cal P w K mg base T "_law_order_right" 3 F__law_order_right 10) (G__law_any : Cal P w K mg base T "_law_any" 2 F__law_any 2) (G__law_levels_right : Cal P w K mg base T "_law_levels_right" 2 F__law_levels_right 8) (G__law_width : Cal P w K mg base T "_law_width" 1 F__law_width 3) (G__law_hand : Cal P w K mg base T "_law_hand" 1 F__law_hand 1) (f : Addr) (cdv : Value) (A : Around) (outer : List Env) (s : Shared) (H : Hp) (B : Bs) (E : XK) (hr : L2.Room 10 (A.deeper (envOfC "law" (defScope s_law) s.heap.objs.size f cdv))) (nd : Fact' (["script", "hand", "turn", "width", "word", "order", "found"] : List Str).Nodup) :
    SSE (cxD P w K mg base ["script", "hand", "turn", "width", "word", "order", "found"] "law" (defScope s_law) f cdv A outer s H E) ⟨⟨K, mg, T⟩, (["script", "hand", "turn", "width", "word", "order", "found"] : List Str).length, B, H⟩ (WD E) (defBody s_law) m_law := by
  have hu := hr.units
  have hu5 := hr.units5
  exact (sse_cons (st 1 (ge_e (ee_live (ge_call (G__law_hand.k hr (by decide)) rfl (ae_cons (de_keep (v 0)) ae_nil) rfl (hms := (mCons_len mNil_len))))))
    (sse_cons (se_for (vs := [2]) [2, 3, 4, 5] (ie_range1 rfl Z.z_range (ae_cons (de_keep ee_int) ae_nil)) (tn 2)
    (sse_cons (se_if (te_not (te_val (ee_fz (ge_call (G__law_levels_right.k hr (by decide)) rfl (ae_cons (de_keep (v 1)) (ae_cons (de_keepX (ge_call (G__law_width.k hr (by decide)) rfl (ae_cons (de_keep (v 1)) ae_nil) rfl (hms := (mCons_len mNil_len)))) ae_nil)) rfl (hms := (mCons_len (mCons_len mNil_len)))))))
    (sse_one (se_ret (ge_e ee_bl)))
    sse_nil)
    (sse_cons (st 3 (ge_call (G__law_any.k hr (by decide)) rfl (ae_cons (de_keep (v 1)) (ae_cons (de_keepX (ge_lst (ae_cons (de_keep ee_int) (ae_cons (de_keep ee_int) (ae_cons (de_keep ee_int) (ae_cons (de_keep ee_int) (ae_cons (de_keep ee_int) (ae_cons (de_keep ee_int) (ae_cons (de_keep ee_int) ae_nil))))))))) ae_nil)) rfl (hms := (mCons_len (mCons_len mNil_len)))))
    (sse_cons (st 4 (ge_call (G__law_any.k hr (by decide)) rfl (ae_cons (de_keep (v 1)) (ae_cons (de_keepX (ge_lst (ae_cons (de_keep ee_str) (ae_cons (de_keep ee_str) (ae_cons (de_keep ee_str) (ae_cons (de_keep ee_str) ae_nil)))))) ae_nil)) rfl (hms := (mCons_len (mCons_len mNil_len)))))
    (sse_one (se_for (vs := [5]) [5] (ie_seq (de_keep (ee_tup (ae_cons (de_keepX (ge_call (G__law_order.k hr (by decide)) rfl (ae_cons (de_keep (v 1)) (ae_cons (de_keep (v 3)) ae_nil)) rfl (hms := (mCons_len (mCons_len mNil_len))))) (ae_cons (de_keepX (ge_call (G_known_order.k hr (by decide)) rfl (ae_cons (de_keep (v 4)) (ae_cons (de_keep (v 3)) ae_nil)) rfl (hms := (mCons_len (mCons_len mNil_len))))) ae_nil))))) (tn 5)
    (sse_one (se_if (te_not (te_val (ee_fz (ge_call (G__law_order_right.k hr (by decide)) rfl (ae_cons (de_keep (v 1)) (ae_cons (de_keep (v 3)) (ae_cons (de_keep (v 5)) ae_nil))) rfl (hms := (mCons_len (mCons_len (mCons_len mNil_len))))))))
    (sse_one (se_ret (ge_e ee_bl)))
    sse_nil))))))))
    (sse_cons (st 6 (ge_lst (ae_cons (de_keepX (ge_call (G_exchanged.k hr (by decide)) rfl (ae_cons (de_keep ee_int) (ae_cons (de_keep ee_int) (ae_cons (de_keep ee_int) (ae_cons (de_keep ee_int) ae_nil)))) rfl (hms := (mCons_len (mCons_len (mCons_len (mCons_len mNil_len))))))) (ae_cons (de_keepX (ge_call (G_order_of_levels.k hr (by decide)) rfl (ae_cons (de_keep ee_int) (ae_cons (de_keep (ee_tup (ae_cons (de_keep (ee_tup (ae_cons (de_keep ee_int) (ae_cons (de_keep ee_int) ae_nil)))) (ae_cons (de_keep (ee_tup (ae_cons (de_keep ee_int) (ae_cons (de_keep ee_int) ae_nil)))) ae_nil)))) ae_nil)) rfl (hms := (mCons_len (mCons_len mNil_len))))) (ae_cons (de_keepX (ge_call (G_by_levels.k hr (by decide)) rfl (ae_cons (de_keep ee_int) (ae_cons (de_keep (ee_tup (ae_cons (de_keep (ee_tup (ae_cons (de_keep ee_int) (ae_cons (de_keep ee_int) ae_nil)))) (ae_cons (de_keep (ee_tup (ae_cons (de_keep ee_int) (ae_cons (de_keep ee_int) ae_nil)))) ae_nil)))) (ae_cons (de_keep ee_int) ae_nil))) rfl (hms := (mCons_len (mCons_len (mCons_len mNil_len)))))) ae_nil)))))
    (sse_one (se_ret (ge_call (G__law_is.k hr (by decide)) rfl (ae_cons (de_keep (v 6)) (ae_cons (de_keepX (ge_lst (ae_cons (de_keep ee_int) (ae_cons (de_keep (ee_tup (ae_cons (de_keep ee_int) (ae_cons (de_keep ee_int) (ae_cons (de_keep ee_int) (ae_cons (de_keep ee_int) ae_nil)))))) (ae_cons (de_keep ee_int) ae_nil))))) ae_nil)) rfl (hms := (mCons_len (mCons_len mNil_len)))))))))
theorem cal_law {T : List (Addr × Str)} {P : Program} {w : World} {K : PySem.W.Frag} {mg : Str → Option Value} {base : Heap} (Dx : DefAt K mg "law" s_law ["script"]) (Z : Zs K mg) (G__law_is : Cal P w K mg base T "_law_is" 2 F__law_is 7) (G_exchanged : Cal P w K mg base T "exchanged" 4 F_exchanged 6) (G_order_of_levels : Cal P w K mg base T "order_of_levels" 2 F_order_of_levels 5) (G_by_levels : Cal P w K mg base T "by_levels" 3 F_by_levels 6) (G__law_order : Cal P w K mg base T "_law_order" 2 F__law_order 3) (G_known_order : Cal P w K mg base T "known_order" 2 F_known_order 4) (G__law_order_right : Cal P w K mg base T "_law_order_right" 3 F__law_order_right 10) (G__law_any : Cal P w K mg base T "_law_any" 2 F__law_any 2) (G__law_levels_right : Cal P w K mg base T "_law_levels_right" 2 F__law_levels_right 8) (G__law_width : Cal P w K mg base T "_law_width" 1 F__law_width 3) (G__law_hand : Cal P w K mg base T "_law_hand" 1 F__law_hand 1) : Cal P w K mg base T "law" 1 F_law 11 :=
  have h : Cal P w K mg base T "law" (["script"] : List Str).length (fnM (["script", "hand", "turn", "width", "word", "order", "found"] : List Str).length m_law) (10 + 1) := cal_of Dx sc_law (by decide) (k := 10) (m := m_law) fun f fd cdv A outer s H B E hr nd => body_law Z G__law_is G_exchanged G_order_of_levels G_by_levels G__law_order G_known_order G__law_order_right G__law_any G__law_levels_right G__law_width G__law_hand f cdv A outer s H B E hr nd
  h
end Law
namespace Law
open PySem PySem.Spec PyProof.Rows L2 Y
theorem e_is_integer (i : Int) (g : G) : F_is_integer [.int i] g = .ok (.d (.bl true)) g := by
  simp [F_is_integer, m_is_integer]
theorem e_is_within (i a b : Int) (g : G) : F_is_within [.int i, .int a, .int b] g = .ok (.d (.bl (decide (a ≤ i) && decide (i ≤ b)))) g := by
  by_cases h : a ≤ i <;> simp [F_is_within, m_is_within, e_is_integer, h]
def mx1 (m n : Int) : Int := (m + 7919 * n) * 48271 % 2147483647
def mx2 (x : Int) : Int := x * (x / 1009 + 69621) % 2147483647
def mx3 (x : Int) : Int := x * (x / 2003 + 40014) % 2147483563
theorem draw_ok {g : G} {k : Int} (hg : HandOk g) (h0 : 0 < k) (h1 : k ≤ 1606938044258990275541962092341162602522202993782792835301376) : ∃ r g', F__law_draw [.live 0, .int k] g = .ok (.d (.int r)) g' ∧ HandOk g' ∧ 0 ≤ r ∧ r < k := by
  obtain ⟨cs, p, l, m, n, rfl, hc, hp, hl⟩ := hg
  have hk : ∀ i, divC i k = true := fun i => divC_of h0 h1
  have tail : ∀ m n : Int, 0 ≤ mx1 m n ∧ mx1 m n < 2147483647 ∧ 0 ≤ mx2 (mx1 m n) ∧ mx2 (mx1 m n) < 2147483647 := fun m n => ⟨(pos_mod (by decide)).1, (pos_mod (by decide)).2, (pos_mod (by decide)).1, (pos_mod (by decide)).2⟩
  have hd : ∀ i, divC i 1009 = true := fun i => divC_of (by decide) (by decide)
  have hd2 : ∀ i, divC i 2003 = true := fun i => divC_of (by decide) (by decide)
  have hd3 : ∀ i, divC i 16 = true := fun i => divC_of (by decide) (by decide)
  by_cases hl0 : l = 0
  · subst hl0
    by_cases hpc : p < cs.length
    · obtain ⟨c, hcm, hat⟩ := cellsOf_at hp hpc
      have hc0 := hc c hcm
      by_cases hbig : (1000000000000000000 : Int) ≤ c
      · have hcp : (0 : Int) < c := by omega
        refine ⟨c % k, [.l [.lst (cellsOf cs), .int (p + 1), .int (c / k), .int ((m * 69621 + c * 40692 + 23) % 2147483629), .int n]], ?_, ⟨cs, _, _, _, _, rfl, hc, by omega, Int.ediv_nonneg hc0 (by omega)⟩, pos_mod h0⟩
        simp [F__law_draw, m__law_draw, hat, hpc, hbig, hcp, mulC_l, mulC_r, powC_of, h0, hk, atI_of, ixN]
      · obtain ⟨t1, t2, t3, t4⟩ := tail ((m * 69621 + c * 40692 + 23) % 2147483629) (n + 1)
        refine ⟨mx3 (mx2 (mx1 ((m * 69621 + c * 40692 + 23) % 2147483629) (n + 1))) / 16 % k, [.l [.lst (cellsOf cs), .int (p + 1), .int 0, .int ((m * 69621 + c * 40692 + 23) % 2147483629), .int (n + 1)]], ?_, ⟨cs, _, _, _, _, rfl, hc, by omega, by omega⟩, pos_mod h0⟩
        generalize e1 : mx1 ((m * 69621 + c * 40692 + 23) % 2147483629) (n + 1) = y1 at *
        generalize e2 : mx2 y1 = y2 at *
        have hm1 : ∀ j, mulC y1 j = true := fun j => mulC_l (by omega) (by omega)
        have hm2 : ∀ j, mulC y2 j = true := fun j => mulC_l (by omega) (by omega)
        unfold mx1 at e1
        unfold mx2 at e2
        simp [F__law_draw, m__law_draw, hat, hpc, hbig, mulC_l, mulC_r, powC_of, h0, hk, atI_of, ixN, hd, hd2, hd3, e1, e2, mx3, hm1, hm2]
    · obtain ⟨t1, t2, t3, t4⟩ := tail m (n + 1)
      refine ⟨mx3 (mx2 (mx1 m (n + 1))) / 16 % k, [.l [.lst (cellsOf cs), .int p, .int 0, .int m, .int (n + 1)]], ?_, ⟨cs, _, _, _, _, rfl, hc, by omega, by omega⟩, pos_mod h0⟩
      generalize e1 : mx1 m (n + 1) = y1 at *
      generalize e2 : mx2 y1 = y2 at *
      have hm1 : ∀ j, mulC y1 j = true := fun j => mulC_l (by omega) (by omega)
      have hm2 : ∀ j, mulC y2 j = true := fun j => mulC_l (by omega) (by omega)
      unfold mx1 at e1
      unfold mx2 at e2
      simp [F__law_draw, m__law_draw, hpc, mulC_l, mulC_r, powC_of, h0, hk, atI_of, ixN, hd, hd2, hd3, e1, e2, mx3, hm1, hm2]
  · have hl1 : 0 < l := by omega
    refine ⟨l % k, [.l [.lst (cellsOf cs), .int p, .int (l / k), .int m, .int n]], ?_, ⟨cs, _, _, _, _, rfl, hc, by omega, Int.ediv_nonneg hl (by omega)⟩, pos_mod h0⟩
    simp [F__law_draw, m__law_draw, hl0, hl1, h0, hk, atI_of, ixN]
theorem hand_ok {ns : List Int} (h : ns.length ≤ 63) (g : G) : ∃ cs m, F__law_hand [.scr ns] g = .ok (.f (.l [.lst (cellsOf cs), .int 0, .int 0, .int m, .int 0])) g ∧ ∀ c ∈ cs, 0 ≤ c := by
  have hcut : cutL (ns.map D.int) none (some 63) = ns.map D.int := by
    have e1 : HT.sIx (ns.map D.int).length 0 none = 0 := by simp [HT.sIx]
    have e2 : HT.sIx (ns.map D.int).length (ns.map D.int).length (some 63) = 63 ∨ HT.sIx (ns.map D.int).length (ns.map D.int).length (some 63) = ns.length := by
      simp [HT.sIx]
      omega
    unfold cutL
    rw [e1, List.drop_zero, Nat.sub_zero]
    rcases e2 with e2 | e2 <;> rw [e2] <;> exact List.take_of_length_le (by simp <;> omega)
  obtain ⟨ds, st', e, hp, hi⟩ := lc_inv (g := gN 2) (mt := mYes) (me := e1__law_hand) (own := [2]) (fun st => st = ⟨[some (.d (.scr ns)), none, none], g⟩) (fun x y => ∃ i : Int, y = .int i ∧ 0 ≤ i) (ns.map D.int) [] ⟨[some (.d (.scr ns)), none, none], g⟩ rfl (by
    intro x hx st e
    subst e
    obtain ⟨i, _, rfl⟩ := List.mem_map.mp hx
    refine ⟨⟨[some (.d (.scr ns)), none, some (.d (.int i))], g⟩, ⟨[some (.d (.scr ns)), none, some (.d (.int i))], g⟩, .int i.natAbs, ⟨[some (.d (.scr ns)), none, some (.d (.int i))], g⟩, rfl, rfl, by
      have e : (if i < 0 then -i else i) = (i.natAbs : Int) := by split <;> omega
      simp [e1__law_hand, e], ⟨i.natAbs, rfl, by omega⟩, rfl⟩) (by simp [lim]; omega)
  subst hi
  have hcs : ∃ cs : List Int, ds = cellsOf cs ∧ ∀ c ∈ cs, 0 ≤ c := by
    clear e hcut h
    generalize ns.map D.int = xs at hp
    induction hp with
    | nil => exact ⟨[], rfl, by simp⟩
    | cons h1 _ ih =>
      obtain ⟨i, rfl, hi⟩ := h1
      obtain ⟨cs, rfl, hc⟩ := ih
      exact ⟨i :: cs, rfl, fun c hc' => by
        rcases List.mem_cons.mp hc' with rfl | h
        · exact hi
        · exact hc c h⟩
  obtain ⟨cs, rfl, hc⟩ := hcs
  rw [List.nil_append] at e
  have e' : lcL (gN 2) mYes e1__law_hand [2] (ns.map D.int) [] ⟨[some (.d (.scr ns)), none, none], g⟩ = .ok (cellsOf cs) ⟨[some (.d (.scr ns)), none, none], g⟩ := e
  refine ⟨cs, 101 + 7 * cs.length, ?_, hc⟩
  simp [F__law_hand, m__law_hand, hcut, e', lim, mulC_l]
theorem any_ok {g : G} {xs : List D} (hg : HandOk g) (h0 : 0 < xs.length) (h1 : xs.length ≤ 1000) : ∃ x g', F__law_any [.live 0, .lst xs] g = .ok (.d x) g' ∧ HandOk g' ∧ x ∈ xs := by
  obtain ⟨r, g', e, hg', hr0, hr1⟩ := draw_ok hg (k := xs.length) (by omega) (by omega)
  have hr : r.toNat < xs.length := by omega
  refine ⟨xs[r.toNat], g', ?_, hg', List.getElem_mem _⟩
  simp [F__law_any, m__law_any, e, atI_of hr0, List.getElem?_eq_getElem hr]
end Law
namespace Law
open PySem PySem.Spec PyProof.Rows L2 Y
theorem wbnd {n : Nat} (h : n ≤ 64) : (2 : Int) ^ n ≤ 18446744073709551616 := by
  have := two_le h
  simpa using this
theorem wbn {n : Nat} (h : n ≤ 64) : 2 ^ n ≤ 18446744073709551616 := by
  have := Nat.pow_le_pow_right (n := 2) (by decide) h
  simpa using this
theorem pcast (n : Nat) : (2 : Int) ^ n = ((2 ^ n : Nat) : Int) := by simp
theorem shl1 {n : Nat} (h : n ≤ 10000) : shlC 1 n = true := shlC_of (by omega) (by omega) (sm_of (by decide) (by decide))
theorem m22 (i : Int) : mulC 2 i = true := mulC_l (by decide) (by decide)
theorem e_within_t {i a b : Int} (h1 : a ≤ i) (h2 : i ≤ b) (g : G) : F_is_within [.int i, .int a, .int b] g = .ok (.d (.bl true)) g := by
  rw [e_is_within, decide_eq_true h1, decide_eq_true h2]
  rfl
theorem e_check_width {n : Nat} (h1 : 1 ≤ n) (h2 : n ≤ 64) (g : G) : F_check_width [.int n] g = .ok (.d .non) g := by
  have e := e_within_t (i := n) (a := 1) (b := 64) (by omega) (by omega) g
  simp [F_check_width, m_check_width, k_MOST_WIDTH, e]
theorem e_check_word {n : Nat} (h1 : 1 ≤ n) (h2 : n ≤ 64) {x : Nat} (x1 : x < 2 ^ n) (g : G) : F_check_word [.int n, .int x] g = .ok (.d .non) g := by
  have x1' : (x : Int) < 2 ^ n := by rw [pcast]; exact_mod_cast x1
  have e3 := e_within_t (i := (x : Int)) (a := 0) (b := 2 ^ n - 1) (by omega) (by omega) g
  have e4 : F_is_word [.int n, .int x] g = .ok (.d (.bl true)) g := by simp [F_is_word, m_is_word, e_check_width h1 h2, e3, shl1 (show n ≤ 10000 by omega)]
  simp [F_check_word, m_check_word, e4]
/-! ### powers of two -/
theorem size_loop (n : Nat) (g : G) : mForL (gN 2) b1__law_size [2] (rgD 0 n) ⟨[some (.d (.int n)), some (.d (.int 1)), none], g⟩ = .nx ⟨[some (.d (.int n)), some (.d (.int (2 ^ n))), none], g⟩ := by
  obtain ⟨st', e, hi⟩ := for_inv (g := gN 2) (body := b1__law_size) (wp := [2]) (fun k st => st = ⟨[some (.d (.int n)), some (.d (.int (2 ^ k))), none], g⟩) (rgD 0 n) 0 ⟨[some (.d (.int n)), some (.d (.int 1)), none], g⟩ rfl (by
    intro j x st hx e
    subst e
    refine ⟨⟨[some (.d (.int n)), some (.d (.int (2 ^ (0 + j)))), some (.d x)], g⟩, ⟨[some (.d (.int n)), some (.d (.int (2 ^ (0 + j + 1)))), some (.d x)], g⟩, rfl, ?_, rfl⟩
    simp [b1__law_size, m22, Int.pow_succ, Int.mul_comm])
  rw [rgD_len, Nat.zero_add] at hi
  rw [e, hi]
theorem e_size (n : Nat) (hn : n ≤ 10000) (g : G) : F__law_size [.int n] g = .ok (.d (.int (2 ^ n))) g := by
  have e := size_loop n g
  have h2 : inR (n : Int) = true := inR_of (by omega) (by omega)
  simp [F__law_size, m__law_size, h2, e]
/-! ### words drawn -/
theorem or_nn (x y : Nat) : Builtin.bitOr (x : Int) (y : Int) = ((x ||| y : Nat) : Int) := by
  rw [Bits.bitOr_pp (by omega) (by omega)]
  simp
theorem and_nn (x y : Nat) : Builtin.bitAnd (x : Int) (y : Int) = ((x &&& y : Nat) : Int) := by
  rw [bitAnd_pp (by omega) (by omega)]
  simp
theorem few_loop {n : Nat} (h1 : 1 ≤ n) (h2 : n ≤ 64) (s d : D) : ∀ (items : List D) (f : Nat) (g : G), f < 2 ^ n → HandOk g → ∃ (f' : Nat) (g' : G), mForL (gN 5) b1__law_word [5] items ⟨[some (.d (.live 0)), some (.d (.int n)), some (.d s), some (.d d), some (.d (.int f)), none, none, none], g⟩ = .nx ⟨[some (.d (.live 0)), some (.d (.int n)), some (.d s), some (.d d), some (.d (.int f')), none, none, none], g'⟩ ∧ f' < 2 ^ n ∧ HandOk g'
  | [], f, g, hf, hg => ⟨f, g, rfl, hf, hg⟩
  | x :: items, f, g, hf, hg => by
    obtain ⟨r, g1, e1, hg1, r0, r1⟩ := draw_ok hg (k := (n : Int)) (by omega) (by omega)
    obtain ⟨r, rfl⟩ := Int.eq_ofNat_of_zero_le r0
    have hr : r < n := by omega
    have hf' : f ||| 2 ^ r < 2 ^ n := Nat.or_lt_two_pow hf (Nat.pow_lt_pow_right (by decide) hr)
    obtain ⟨f', g', e, q1, q2⟩ := few_loop h1 h2 s d items (f ||| 2 ^ r) g1 hf' hg1
    refine ⟨f', g', ?_, q1, q2⟩
    have es := e_size r (by omega) g1
    have eo := or_nn f (2 ^ r)
    rw [← pcast] at eo
    unfold mForL
    have eb : b1__law_word ⟨[some (.d (.live 0)), some (.d (.int n)), some (.d s), some (.d d), some (.d (.int f)), some (.d x), none, none], g⟩ = .nx ⟨[some (.d (.live 0)), some (.d (.int n)), some (.d s), some (.d d), some (.d (.int ((f ||| 2 ^ r : Nat) : Int))), some (.d x), none, none], g1⟩ := by
      simp [b1__law_word, e1, es, eo]
    simp [eb, e]
theorem e_word {n : Nat} (h1 : 1 ≤ n) (h2 : n ≤ 64) {g : G} (hg : HandOk g) : ∃ (x : Nat) (g' : G), F__law_word [.live 0, .int n] g = .ok (.d (.int x)) g' ∧ HandOk g' ∧ x < 2 ^ n := by
  have hp : 0 < 2 ^ n := Nat.two_pow_pos n
  have hb := wbn h2
  have h2p : 2 ≤ 2 ^ n := by
    have := Nat.pow_le_pow_right (n := 2) (by decide) h1
    simpa using this
  obtain ⟨d, g1, e1, hg1, d0, d1⟩ := draw_ok hg (k := ((2 ^ n : Nat) : Int)) (by omega) (by omega)
  obtain ⟨d, rfl⟩ := Int.eq_ofNat_of_zero_le d0
  obtain ⟨t, g2, e2, hg2, t0, t1⟩ := draw_ok hg1 (k := 4) (by decide) (by decide)
  obtain ⟨t, rfl⟩ := Int.eq_ofNat_of_zero_le t0
  obtain ⟨f, g3, e3, hf, hg3⟩ := few_loop h1 h2 (.int ((2 ^ n : Nat) : Int)) (.int d) (rgD 0 t) 0 g2 hp hg2
  have it : inR (t : Int) = true := inR_of (by omega) (by omega)
  have es := e_size n (by omega) g
  rw [pcast] at es
  have hd2 : ∀ i, divC i 2 = true := fun i => divC_of (by decide) (by decide)
  obtain ⟨x, g4, e4, hg4, hx⟩ := any_ok (xs := [.int 0, .int ((2 ^ n : Nat) - 1 : Int), .int ((2 ^ n : Nat) / 2 : Int), .int ((2 ^ n : Nat) / 2 - 1 : Int), .int 1, .int ((2 ^ n : Nat) - 1 - f : Int), .int f, .int d, .int d, .int d, .int d]) hg3 (by simp) (by simp)
  generalize 2 ^ n = N at *
  have hw : ∃ w : Nat, x = .int w ∧ w < N := by
    simp only [List.mem_cons, List.not_mem_nil, or_false] at hx
    rcases hx with rfl | rfl | rfl | rfl | rfl | rfl | rfl | rfl | rfl | rfl | rfl
    · exact ⟨0, rfl, by omega⟩
    · exact ⟨N - 1, by congr 1; omega, by omega⟩
    · exact ⟨N / 2, by congr 1, by omega⟩
    · exact ⟨N / 2 - 1, by congr 1; omega, by omega⟩
    · exact ⟨1, rfl, by omega⟩
    · exact ⟨N - 1 - f, by congr 1; omega, by omega⟩
    · exact ⟨f, rfl, by omega⟩
    · exact ⟨d, rfl, by omega⟩
    · exact ⟨d, rfl, by omega⟩
    · exact ⟨d, rfl, by omega⟩
    · exact ⟨d, rfl, by omega⟩
  obtain ⟨w, rfl, hw⟩ := hw
  refine ⟨w, g4, ?_, hg4, hw⟩
  have c1 : (0 : Int) < (N : Int) / 2 := by omega
  have c2 : (1 : Int) < (N : Int) := by omega
  have c3 : (N : Int) / 2 < N := by omega
  have e3' : mForL (gN 5) b1__law_word [5] (rgD 0 t) ⟨[some (.d (.live 0)), some (.d (.int n)), some (.d (.int N)), some (.d (.int d)), some (.d (.int 0)), none, none, none], g2⟩ = _ := e3
  simp [F__law_word, m__law_word, es, e1, e2, it, e3', hd2, c1, c2, c3, e4, lim]
theorem e_width {g : G} (hg : HandOk g) : ∃ (n : Nat) (g' : G), F__law_width [.live 0] g = .ok (.d (.int n)) g' ∧ HandOk g' ∧ 1 ≤ n ∧ n ≤ 64 := by
  obtain ⟨r, g1, e1, hg1, r0, r1⟩ := draw_ok hg (k := 64) (by decide) (by decide)
  obtain ⟨s, g2, e2, hg2, s0, s1⟩ := draw_ok hg1 (k := 10) (by decide) (by decide)
  obtain ⟨x, g3, e3, hg3, hx⟩ := any_ok (xs := [.int 1, .int 2, .int 3, .int 4, .int 8, .int 16, .int 32, .int 63, .int 64, .int (1 + r), .int (1 + s)]) hg2 (by simp) (by simp)
  have hw : ∃ n : Nat, x = .int n ∧ 1 ≤ n ∧ n ≤ 64 := by
    simp only [List.mem_cons, List.not_mem_nil, or_false] at hx
    rcases hx with rfl | rfl | rfl | rfl | rfl | rfl | rfl | rfl | rfl | rfl | rfl
    · exact ⟨1, rfl, by decide, by decide⟩
    · exact ⟨2, rfl, by decide, by decide⟩
    · exact ⟨3, rfl, by decide, by decide⟩
    · exact ⟨4, rfl, by decide, by decide⟩
    · exact ⟨8, rfl, by decide, by decide⟩
    · exact ⟨16, rfl, by decide, by decide⟩
    · exact ⟨32, rfl, by decide, by decide⟩
    · exact ⟨63, rfl, by decide, by decide⟩
    · exact ⟨64, rfl, by decide, by decide⟩
    · exact ⟨(1 + r).toNat, by congr 1; omega, by omega, by omega⟩
    · exact ⟨(1 + s).toNat, by congr 1; omega, by omega, by omega⟩
  obtain ⟨n, rfl, n1, n2⟩ := hw
  refine ⟨n, g3, ?_, hg3, n1, n2⟩
  simp [F__law_width, m__law_width, e1, e2, e3, lim]
end Law
namespace Law
open PySem PySem.Spec PyProof.Rows L2 Y
/-- what is said to be alike, n steps deep -/
def okD : Nat → D → Bool
  | 0, _ => false
  | n + 1, .tup ds => decide (ds.length ≤ 1000) && ds.all (okD n)
  | n + 1, .lst ds => decide (ds.length ≤ 1000) && ds.all (okD n)
  | _ + 1, .int _ => true
  | _ + 1, .bl _ => true
  | _ + 1, .non => true
  | _, _ => false
theorem zip_self : ∀ ds : List D, zip2D ds ds = ds.map fun x => .tup [x, x]
  | [] => rfl
  | d :: ds => by
    show _ :: zip2D ds ds = _
    rw [zip_self ds]
    rfl
theorem bls_true : ∀ n : Nat, blsOf (List.replicate n (D.bl true)) = some (List.replicate n true)
  | 0 => rfl
  | n + 1 => by simp [List.replicate_succ, blsOf, bls_true n]
theorem all_true (n : Nat) : (List.replicate n true).all id = true := by simp
@[simp] theorem fEq_bl (i j : Bool) : fEq (.bl i) (.bl j) = some (.bl (i == j)) := by simp [fEq]
@[simp] theorem fNe_bl (i j : Bool) : fNe (.bl i) (.bl j) = some (.bl (!(i == j))) := by simp [fNe]
theorem is_walk {n : Nat} (ih : ∀ d, okD n d = true → ∀ g, Fr__law_is n [d, d] g = .ok (.d (.bl true)) g) {a : D} {ds : List D} (h : ds.all (okD n) = true) (hl : ds.length ≤ 1000) (g : G) :
    lcL (gT 2 (gsC (gN 2) (gsC (gN 3) gsN))) mYes (e1__law_is (Fr__law_is n)) [2, 3] (zip2D ds ds) [] ⟨[some (.d a), some (.d a), none, none], g⟩ = .ok (List.replicate ds.length (.bl true)) ⟨[some (.d a), some (.d a), none, none], g⟩ := by
  rw [zip_self]
  have e := lc_map (g := gT 2 (gsC (gN 2) (gsC (gN 3) gsN))) (me := e1__law_is (Fr__law_is n)) (own := [2, 3]) (fun _ => D.bl true) ⟨[some (.d a), some (.d a), none, none], g⟩ (ds.map fun x => .tup [x, x]) (by
    intro x hx
    obtain ⟨d, hd, rfl⟩ := List.mem_map.mp hx
    have e := ih d (List.all_eq_true.mp h d hd) g
    refine ⟨⟨[some (.d a), some (.d a), some (.d d), some (.d d)], g⟩, ⟨[some (.d a), some (.d a), some (.d d), some (.d d)], g⟩, rfl, ?_, rfl⟩
    simp [e1__law_is, e]) [] (by simp [lim]; omega)
  rw [e, List.nil_append, List.map_map]
  congr 1
  exact List.map_const'
theorem e_isR : ∀ (n : Nat) (d : D), okD n d = true → ∀ g, Fr__law_is n [d, d] g = .ok (.d (.bl true)) g
  | n + 1, .tup ds, h, g => by
    simp only [okD, Bool.and_eq_true, decide_eq_true_eq] at h
    have e := is_walk (e_isR n) h.2 h.1 (a := .tup ds) g
    simp [Fr__law_is, m__law_is, e, bls_true]
  | n + 1, .lst ds, h, g => by
    simp only [okD, Bool.and_eq_true, decide_eq_true_eq] at h
    have e := is_walk (e_isR n) h.2 h.1 (a := .lst ds) g
    simp [Fr__law_is, m__law_is, e, bls_true]
  | n + 1, .int i, h, g => by simp [Fr__law_is, m__law_is]
  | n + 1, .bl i, h, g => by simp [Fr__law_is, m__law_is, fEq]
  | n + 1, .non, h, g => by simp [Fr__law_is, m__law_is]
theorem e_is {d : D} (h : okD 6 d = true) (g : G) : F__law_is [d, d] g = .ok (.d (.bl true)) g := e_isR 6 d h g
theorem okD_ints (n : Nat) : ∀ ns : List Int, (ns.map D.int).all (okD (n + 1)) = true
  | [] => rfl
  | i :: ns => by
    rw [List.map_cons, List.all_cons, okD_ints n ns]
    rfl
end Law
namespace Law
open PySem PySem.Spec PyProof.Rows L2 Y
def zI (o : List Nat) : List Int := o.map fun (n : Nat) => (n : Int)
def iN (o : List Nat) : List D := o.map fun (n : Nat) => .int (n : Int)
theorem iN_z (o : List Nat) : iN o = (zI o).map D.int := by simp [iN, zI]
@[simp] theorem iN_len (o : List Nat) : (iN o).length = o.length := by simp [iN]
theorem iN_at (o : List Nat) (i : Nat) : (iN o)[i]? = (o[i]?).map fun (n : Nat) => .int (n : Int) := by simp [iN]
theorem iN_set (o : List Nat) (i x : Nat) : (iN o).set i (.int (x : Int)) = iN (o.set i x) := by simp [iN, List.map_set]
theorem iN_erase : ∀ (o : List Nat) (i : Nat), (iN o).eraseIdx i = iN (o.eraseIdx i)
  | [], _ => rfl
  | _ :: _, 0 => rfl
  | x :: o, i + 1 => by
    show _ :: (iN o).eraseIdx i = _ :: iN (o.eraseIdx i)
    rw [iN_erase o i]
theorem erase_perm : ∀ {l : List Nat} {i : Nat} (h : i < l.length), (l[i] :: l.eraseIdx i).Perm l
  | x :: l, 0, _ => .refl _
  | x :: l, i + 1, h => by
    show (l[i]'(by simpa using h) :: x :: l.eraseIdx i).Perm (x :: l)
    exact (List.Perm.swap _ _ _).trans (.cons _ (erase_perm (l := l) (i := i) (by simpa using h)))
theorem iN_app (o p : List Nat) : iN o ++ iN p = iN (o ++ p) := by simp [iN]
theorem iN_range (w : Nat) : rgD 0 w = iN (List.range w) := by simp [rgD, iN]
theorem rgC_range (w : Nat) : rgC 0 1 w = iN (List.range w) := by rw [rgC_one, iN_range]
theorem atI_iN {o : List Nat} {i : Nat} (h : i < o.length) : atI (iN o) (i : Int) = some (.int (o[i] : Int)) := by
  rw [Y.atI_nat, iN_at, List.getElem?_eq_getElem h]
  rfl
theorem ixN_nat {n i : Nat} (h : i < n) : ixN n (i : Int) = some i := by
  unfold ixN
  have h0 : ¬ (i : Int) < 0 := by omega
  have h1 : (i : Int) < n := by omega
  simp [h0, h1]
theorem seqIx_nat {n i : Nat} (h : i < n) : seqIndex? (i : Int) n = some i := by
  unfold seqIndex?
  have h0 : ¬ (i : Int) < 0 := by omega
  have h1 : (i : Int) < n := by omega
  simp [h0, h1]
theorem cut_lo1 {xs : List D} (h : 1 ≤ xs.length) : cutL xs (some 1) none = xs.drop 1 := by
  have e1 : HT.sIx xs.length 0 (some 1) = 1 := by simp [HT.sIx]; omega
  have e2 : HT.sIx xs.length xs.length none = xs.length := by simp [HT.sIx]
  unfold cutL
  rw [e1, e2]
  exact List.take_of_length_le (by simp)
theorem cut_hi1 {xs : List D} (h : 1 ≤ xs.length) : cutL xs none (some 1) = xs.take 1 := by
  have e1 : HT.sIx xs.length 0 none = 0 := by simp [HT.sIx]
  have e2 : HT.sIx xs.length xs.length (some 1) = 1 := by simp [HT.sIx]; omega
  unfold cutL
  rw [e1, e2]
  rfl
/-! ### shuffled -/
theorem shuf_loop (o : D) : ∀ (n : Nat) (xs ys : List Nat) (g : G), n = xs.length → xs.length + ys.length ≤ 64 → HandOk g →
    ∃ (zs : List Nat) (g' : G), mWhile t1__law_shuffled b2__law_shuffled [] ⟨[some (.d (.live 0)), some (.d o), some (.m (.l (iN xs))), some (.m (.l (iN ys)))], g⟩ = .nx ⟨[some (.d (.live 0)), some (.d o), some (.m (.l [])), some (.m (.l (iN zs)))], g'⟩ ∧ HandOk g' ∧ zs.Perm (ys ++ xs) := by
  intro n xs ys g hn hl hg
  obtain ⟨s, e, zs, g', hs, hg', hp⟩ := while_ok (mt := t1__law_shuffled) (m := b2__law_shuffled) (wp := [])
    (fun k st => ∃ (xs' ys' : List Nat) (g' : G), k = xs'.length ∧ xs'.length + ys'.length ≤ 64 ∧ st = ⟨[some (.d (.live 0)), some (.d o), some (.m (.l (iN xs'))), some (.m (.l (iN ys')))], g'⟩ ∧ HandOk g' ∧ (ys' ++ xs').Perm (ys ++ xs))
    (fun st => ∃ (zs : List Nat) (g' : G), st = ⟨[some (.d (.live 0)), some (.d o), some (.m (.l [])), some (.m (.l (iN zs)))], g'⟩ ∧ HandOk g' ∧ zs.Perm (ys ++ xs)) (by
      rintro k st ⟨xs', ys', g1, rfl, hl', rfl, hg1, hp⟩
      cases xs' with
      | nil =>
        refine .inl ⟨_, ?_, ys', g1, rfl, hg1, by simpa using hp⟩
        simp [t1__law_shuffled, iN]
      | cons x t =>
        obtain ⟨r, g2, e2, hg2, r0, r1⟩ := draw_ok hg1 (k := (((x :: t).length : Nat) : Int)) (by simp) (by simp at hl' ⊢; omega)
        obtain ⟨r, rfl⟩ := Int.eq_ofNat_of_zero_le r0
        have hr : r < (x :: t).length := by omega
        refine .inr ⟨⟨[some (.d (.live 0)), some (.d o), some (.m (.l (iN (x :: t)))), some (.m (.l (iN ys')))], g1⟩, ⟨[some (.d (.live 0)), some (.d o), some (.m (.l (iN ((x :: t).eraseIdx r)))), some (.m (.l (iN (ys' ++ [(x :: t)[r]]))))], g2⟩, ((x :: t).eraseIdx r).length, ?_, ?_, ?_, (x :: t).eraseIdx r, ys' ++ [(x :: t)[r]], g2, rfl, ?_, rfl, hg2, ?_⟩
        · simp [t1__law_shuffled]
        · have h1 := seqIx_nat (n := (iN (x :: t)).length) (i := r) (by rw [iN_len]; exact hr)
          have h2 : (iN (x :: t))[r]? = some (.int ((x :: t)[r] : Int)) := by rw [iN_at, List.getElem?_eq_getElem hr]; rfl
          have h3 : iN ys' ++ [.int ((x :: t)[r] : Int)] = iN (ys' ++ [(x :: t)[r]]) := by simp [iN]
          have h4 : ys'.length < lim := by unfold lim; omega
          have h5 : r < 4611686018427387904 := by omega
          rw [iN_len] at h1
          generalize x :: t = l at *
          simp [b2__law_shuffled, e2, h1, h2, h3, h4, h5, iN_erase]
        · rw [List.length_eraseIdx_of_lt hr]
          omega
        · rw [List.length_eraseIdx_of_lt hr, List.length_append]
          simp at hl' ⊢
          omega
        · refine List.Perm.trans ?_ hp
          rw [List.append_assoc]
          exact (erase_perm hr).append_left ys'
      ) (n := xs.length) (by omega) ⟨xs, ys, g, rfl, hl, rfl, hg, .refl _⟩
  exact ⟨zs, g', by rw [e, hs], hg', hp⟩
theorem e_shuffled {xs : List Nat} (h : xs.length ≤ 64) {g : G} (hg : HandOk g) : ∃ (zs : List Nat) (g' : G), F__law_shuffled [.live 0, .lst (iN xs)] g = .ok (.f (.l (iN zs))) g' ∧ HandOk g' ∧ zs.Perm xs := by
  obtain ⟨zs, g', e, hg', hp⟩ := shuf_loop (.lst (iN xs)) xs.length xs [] g rfl (by simpa using h) hg
  refine ⟨zs, g', ?_, hg', by simpa using hp⟩
  have e' : mWhile t1__law_shuffled b2__law_shuffled [] ⟨[some (.d (.live 0)), some (.d (.lst (iN xs))), some (.m (.l (iN xs))), some (.m (.l []))], g⟩ = _ := e
  simp [F__law_shuffled, m__law_shuffled, e']
/-! ### orders -/
theorem swap_loop {w : Nat} (h1 : 1 ≤ w) (h2 : w ≤ 64) (k : D) : ∀ (items : List D) (row : List Nat) (g : G), row.Perm (List.range w) → HandOk g → ∃ (row' : List Nat) (g' : G),
    mForL (gN 4) b1__law_order [4, 5, 6] items ⟨[some (.d (.live 0)), some (.d (.int w)), some (.d k), some (.m (.l (iN row))), none, none, none], g⟩ = .nx ⟨[some (.d (.live 0)), some (.d (.int w)), some (.d k), some (.m (.l (iN row'))), none, none, none], g'⟩ ∧ HandOk g' ∧ row'.Perm (List.range w)
  | [], row, g, hp, hg => ⟨row, g, rfl, hg, hp⟩
  | x :: items, row, g, hp, hg => by
    have hl : row.length = w := by rw [hp.length_eq, List.length_range]
    obtain ⟨a, g1, e1, hg1, a0, a1⟩ := draw_ok hg (k := (w : Int)) (by omega) (by omega)
    obtain ⟨a, rfl⟩ := Int.eq_ofNat_of_zero_le a0
    obtain ⟨b, g2, e2, hg2, b0, b1⟩ := draw_ok hg1 (k := (w : Int)) (by omega) (by omega)
    obtain ⟨b, rfl⟩ := Int.eq_ofNat_of_zero_le b0
    have ha : a < row.length := by omega
    have hb : b < row.length := by omega
    have hp' : ((row.set a row[b]).set b row[a]).Perm (List.range w) := (List.set_set_perm ha hb).trans hp
    obtain ⟨row', g', e, q1, q2⟩ := swap_loop h1 h2 k items ((row.set a row[b]).set b row[a]) g2 hp' hg2
    refine ⟨row', g', ?_, q1, q2⟩
    have ia := atI_iN ha
    have ib := atI_iN hb
    have xa := ixN_nat ha
    have xb : ixN (row.set a row[b]).length (b : Int) = some b := ixN_nat (by rw [List.length_set]; exact hb)
    have sa : (iN row).set a (.int (row[b] : Int)) = iN (row.set a row[b]) := iN_set _ _ _
    have sb : (iN (row.set a row[b])).set b (.int (row[a] : Int)) = iN ((row.set a row[b]).set b row[a]) := iN_set _ _ _
    have eb : b1__law_order ⟨[some (.d (.live 0)), some (.d (.int w)), some (.d k), some (.m (.l (iN row))), some (.d x), none, none], g⟩ = .nx ⟨[some (.d (.live 0)), some (.d (.int w)), some (.d k), some (.m (.l (iN ((row.set a row[b]).set b row[a])))), some (.d x), some (.d (.int a)), some (.d (.int b))], g2⟩ := by
      simp [b1__law_order, e1, e2, ia, ib, xa, xb, sa, sb, lim, -List.length_set]
    unfold mForL
    simp [eb, e]
theorem e_order_d {w : Nat} (h1 : 1 ≤ w) (h2 : w ≤ 64) {g : G} (hg : HandOk g) : ∃ (o : List Nat) (g' : G), F__law_order [.live 0, .int w] g = .ok (.d (.tup (iN o))) g' ∧ HandOk g' ∧ o.Perm (List.range w) := by
  obtain ⟨k, g1, e1, hg1, k0, k1⟩ := draw_ok hg (k := 4) (by decide) (by decide)
  have iw : inR (w : Int) = true := inR_of (by omega) (by omega)
  by_cases hk : 1 < k
  · obtain ⟨zs, g2, e2, hg2, hp⟩ := e_shuffled (xs := List.range w) (by simp; omega) hg1
    refine ⟨zs, g2, ?_, hg2, hp⟩
    simp [F__law_order, m__law_order, e1, hk, iw, iN_range, e2, show w ≤ 16777216 by omega]
  · obtain ⟨t, g2, e2, hg2, t0, t1⟩ := draw_ok hg1 (k := 4) (by decide) (by decide)
    obtain ⟨t, rfl⟩ := Int.eq_ofNat_of_zero_le t0
    have it : inR (t : Int) = true := inR_of (by omega) (by omega)
    obtain ⟨row, g3, e3, hg3, hp⟩ := swap_loop h1 h2 (.int k) (iN (List.range t)) (List.range w) g2 (.refl _) hg2
    have hl : row.length = w := by rw [hp.length_eq, List.length_range]
    by_cases hk0 : k = 0
    · subst hk0
      refine ⟨row, g3, ?_, hg3, hp⟩
      simp [F__law_order, m__law_order, e1, hk, iw, it, iN_range, e2, e3, show w ≤ 16777216 by omega]
    · have hr : 1 ≤ (iN row).length := by simp [iN]; omega
      have c1 : cutL (iN row) (some 1) none = iN (row.drop 1) := by
        rw [cut_lo1 hr]
        simp [iN, List.map_drop]
      have c2 : cutL (iN row) none (some 1) = iN (row.take 1) := by
        rw [cut_hi1 hr]
        simp [iN, List.map_take]
      refine ⟨row.drop 1 ++ row.take 1, g3, ?_, hg3, (List.perm_append_comm).trans (by rw [List.take_append_drop]; exact hp)⟩
      have hz : row.length - 1 + min 1 row.length ≤ lim := by
        unfold lim
        omega
      simp [F__law_order, m__law_order, e1, hk, hk0, iw, it, iN_range, e2, e3, c1, c2, iN_app, hz, show w ≤ 16777216 by omega]
end Law
namespace Law
open PySem PySem.Spec PyProof.Rows L2 Y
theorem lc_mapK {α : Type} {g : Gt} {me : Mo D} {own : List Nat} (it f : α → D) (st : MS) (ks : List α) (hi : ∀ k ∈ ks, ∃ s1 s3, g (it k) st = some s1 ∧ me s1 = .ok (f k) s3 ∧ ({ s3 with sl := wipeS s3.sl own } : MS) = st) (hl : ks.length ≤ lim) : lcL g mYes me own (ks.map it) [] st = .ok (ks.map f) st := by
  have key : ∀ (ks : List α) (acc : List D), (∀ k ∈ ks, ∃ s1 s3, g (it k) st = some s1 ∧ me s1 = .ok (f k) s3 ∧ ({ s3 with sl := wipeS s3.sl own } : MS) = st) → acc.length + ks.length ≤ lim → lcL g mYes me own (ks.map it) acc st = .ok (acc ++ ks.map f) st := by
    intro ks
    induction ks with
    | nil => intro acc _ _; rw [List.map_nil, List.map_nil, List.append_nil]; rfl
    | cons x xs ih =>
      intro acc hi hl
      obtain ⟨s1, s3, e1, e2, e3⟩ := hi x List.mem_cons_self
      have hl' : acc.length + (xs.length + 1) ≤ lim := hl
      rw [List.map_cons]
      unfold lcL
      simp only [e1, mYes, e2, e3]
      rw [if_pos (decide_eq_true (by omega)), ih (acc ++ [f x]) (fun y hy => hi y (List.mem_cons_of_mem _ hy)) (by rw [List.length_append, List.length_singleton]; omega), List.append_assoc]
      rfl
  have := key ks [] hi (by simpa using hl)
  simpa using this
/-! ### bits and numbers -/
def bit (x p : Nat) : Nat := x / 2 ^ p % 2
def num : List Nat → Nat
  | [] => 0
  | b :: t => b + 2 * num t
theorem num_cons (b : Nat) (t : List Nat) : num (b :: t) = b + 2 * num t := rfl
theorem bit_le (x p : Nat) : bit x p ≤ 1 := by unfold bit; omega
theorem bit_succ (x p : Nat) : bit x (p + 1) = bit (x / 2) p := by
  unfold bit
  rw [Nat.pow_succ, Nat.mul_comm, Nat.div_div_eq_div_mul]
theorem num_bit : ∀ (bs : List Nat), (∀ b ∈ bs, b ≤ 1) → ∀ p, bit (num bs) p = bs.getD p 0
  | [], _, p => by simp [num, bit]
  | b :: t, h, 0 => by
    have := h b List.mem_cons_self
    simp [num, bit]
    omega
  | b :: t, h, p + 1 => by
    have := h b List.mem_cons_self
    rw [bit_succ]
    have e : num (b :: t) / 2 = num t := by rw [num_cons]; omega
    rw [e, num_bit t (fun x hx => h x (List.mem_cons_of_mem _ hx)) p]
    rfl
theorem num_lt : ∀ (bs : List Nat), (∀ b ∈ bs, b ≤ 1) → num bs < 2 ^ bs.length
  | [], _ => by decide
  | b :: t, h => by
    have h1 := h b List.mem_cons_self
    have h2 := num_lt t (fun x hx => h x (List.mem_cons_of_mem _ hx))
    rw [List.length_cons, Nat.pow_succ, num_cons]
    omega
theorem num_self : ∀ (w x : Nat), x < 2 ^ w → num ((List.range w).map (bit x)) = x
  | 0, x, h => by
    have : x = 0 := by simpa using h
    subst this
    rfl
  | w + 1, x, h => by
    rw [List.range_succ_eq_map, List.map_cons, List.map_map]
    have e : (bit x ∘ Nat.succ) = bit (x / 2) := by
      funext p
      exact bit_succ x p
    have h2 : x / 2 < 2 ^ w := by
      rw [Nat.pow_succ] at h
      omega
    show bit x 0 + 2 * num (List.map (bit x ∘ Nat.succ) (List.range w)) = x
    rw [e, num_self w (x / 2) h2]
    unfold bit
    omega
theorem bits_ext {w x y : Nat} (hx : x < 2 ^ w) (hy : y < 2 ^ w) (h : ∀ p, p < w → bit x p = bit y p) : x = y := by
  rw [← num_self w x hx, ← num_self w y hy]
  congr 1
  exact List.map_congr_left fun p hp => h p (List.mem_range.mp hp)
theorem bit_hi {w x p : Nat} (hx : x < 2 ^ w) (h : w ≤ p) : bit x p = 0 := by
  unfold bit
  have := Nat.pow_le_pow_right (n := 2) (by decide) h
  rw [Nat.div_eq_of_lt (by omega)]
/-- bits, as the law takes them -/
theorem e_bits {w : Nat} (h2 : w ≤ 64) (x : Nat) (g : G) : F__law_bits [.int w, .int x] g = .ok (.f (.l (iN ((List.range w).map (bit x))))) g := by
  obtain ⟨st', e, hi⟩ := for_inv (g := gN 3) (body := b1__law_bits) (wp := [3]) (fun k st => k ≤ w → st = ⟨[some (.d (.int w)), some (.d (.int (x / 2 ^ k : Nat))), some (.m (.l (iN ((List.range k).map (bit x))))), none], g⟩) (rgD 0 w) 0 ⟨[some (.d (.int w)), some (.d (.int x)), some (.m (.l [])), none], g⟩ (by simp [iN]) (by
    intro j d st hd hst
    have hj : j < w := by
      have := List.getElem?_eq_some_iff.mp hd
      obtain ⟨h, _⟩ := this
      rwa [rgD_len] at h
    have e := hst (by omega)
    subst e
    rw [Nat.zero_add]
    refine ⟨⟨[some (.d (.int w)), some (.d (.int (x / 2 ^ j : Nat))), some (.m (.l (iN ((List.range j).map (bit x))))), some (.d d)], g⟩, ⟨[some (.d (.int w)), some (.d (.int (x / 2 ^ (j + 1) : Nat))), some (.m (.l (iN ((List.range (j + 1)).map (bit x))))), some (.d d)], g⟩, rfl, ?_, fun _ => rfl⟩
    have hb : ((x / 2 ^ j : Nat) : Int) % 2 = ((bit x j : Nat) : Int) := by unfold bit; omega
    have hc : ((x / 2 ^ j : Nat) : Int) / 2 = ((x / 2 ^ (j + 1) : Nat) : Int) := by
      rw [Nat.pow_succ, ← Nat.div_div_eq_div_mul]
      omega
    have hd2 : ∀ i, divC i 2 = true := fun i => divC_of (by decide) (by decide)
    have hl : j < lim := by unfold lim; omega
    have ha : iN ((List.range j).map (bit x)) ++ [.int (bit x j : Int)] = iN ((List.range (j + 1)).map (bit x)) := by
      rw [List.range_succ, List.map_append, ← iN_app]
      rfl
    generalize x / 2 ^ j = y at *
    generalize x / 2 ^ (j + 1) = z at *
    simp [b1__law_bits, hb, hc, hd2, hl, ha, -Int.natCast_ediv, -Int.natCast_emod])
  rw [rgD_len, Nat.zero_add] at hi
  have hi := hi (Nat.le_refl _)
  subst hi
  have iw : inR (w : Int) = true := inR_of (by omega) (by omega)
  simp [F__law_bits, m__law_bits, iw, e]
theorem number_loop (l : D) (g : G) : ∀ (bs : List Nat) (a : Nat), mForL (gN 2) b1__law_number [2] (iN bs) ⟨[some (.d l), some (.d (.int a)), none], g⟩ = .nx ⟨[some (.d l), some (.d (.int (bs.foldl (fun a b => 2 * a + b) a : Nat))), none], g⟩
  | [], a => rfl
  | b :: bs, a => by
    have ih := number_loop l g bs (2 * a + b)
    have hc : (2 : Int) * (a : Int) + (b : Int) = ((2 * a + b : Nat) : Int) := by omega
    show mForL _ _ [2] (.int (b : Int) :: iN bs) _ = _
    have eb : b1__law_number ⟨[some (.d l), some (.d (.int a)), some (.d (.int b))], g⟩ = .nx ⟨[some (.d l), some (.d (.int ((2 * a + b : Nat) : Int))), some (.d (.int b))], g⟩ := by
      simp [b1__law_number, m22, hc, -Int.natCast_add, -Int.natCast_mul]
    unfold mForL
    simp only [gN, List.set_cons_succ, List.set_cons_zero, eb, wipeS]
    exact ih
theorem num_fold (bs : List Nat) : bs.reverse.foldl (fun a b => 2 * a + b) 0 = num bs := by
  rw [List.foldl_reverse]
  induction bs with
  | nil => rfl
  | cons b t ih =>
    rw [List.foldr_cons, ih, num_cons]
    omega
theorem e_number (bs : List Nat) (g : G) : F__law_number [.lst (iN bs)] g = .ok (.d (.int (num bs))) g := by
  have e := number_loop (.lst (iN bs)) g bs.reverse 0
  rw [num_fold] at e
  have hr : (iN bs).reverse = iN bs.reverse := by simp [iN]
  have e' : mForL (gN 2) b1__law_number [2] (iN bs.reverse) ⟨[some (.d (.lst (iN bs))), some (.d (.int 0)), none], g⟩ = _ := e
  simp [F__law_number, m__law_number, hr, e']
/-! ### laid -/
def laidN (o : List Nat) (x : Nat) : Nat := num (o.map (bit x))
theorem laid_bits (o : List Nat) (x : Nat) : ∀ b ∈ o.map (bit x), b ≤ 1 := by
  intro b hb
  obtain ⟨p, _, rfl⟩ := List.mem_map.mp hb
  exact bit_le x p
theorem laid_lt (o : List Nat) (x : Nat) : laidN o x < 2 ^ o.length := by
  have := num_lt _ (laid_bits o x)
  rwa [List.length_map] at this
theorem laid_bit {o : List Nat} (x : Nat) {p : Nat} (h : p < o.length) : bit (laidN o x) p = bit x o[p] := by
  unfold laidN
  rw [num_bit _ (laid_bits o x)]
  simp [List.getD_eq_getElem?_getD, List.getElem?_map, List.getElem?_eq_getElem h]
theorem ord_len {w : Nat} {o : List Nat} (ho : o.Perm (List.range w)) : o.length = w := by rw [ho.length_eq, List.length_range]
theorem ord_lt {w : Nat} {o : List Nat} (ho : o.Perm (List.range w)) {p : Nat} (hp : p ∈ o) : p < w := List.mem_range.mp (ho.mem_iff.mp hp)
theorem ord_mem {w : Nat} {o : List Nat} (ho : o.Perm (List.range w)) {p : Nat} (hp : p < w) : p ∈ o := ho.mem_iff.mpr (List.mem_range.mpr hp)
theorem ord_nodup {w : Nat} {o : List Nat} (ho : o.Perm (List.range w)) : o.Nodup := ho.nodup_iff.mpr List.nodup_range
theorem ord_at {w : Nat} {o : List Nat} (ho : o.Perm (List.range w)) {k : Nat} (hk : k < w) : ∃ h : k < o.length, o[k] < w := ⟨by rw [ord_len ho]; exact hk, ord_lt ho (List.getElem_mem _)⟩
theorem e_law_laid {w : Nat} {o : List Nat} (h2 : w ≤ 64) (ho : o.Perm (List.range w)) (x : Nat) (g : G) : F__law_laid [.int w, .tup (iN o), .int x] g = .ok (.d (.int (laidN o x))) g := by
  have e := lc_mapK (g := gN 4) (me := (mKeep (mOp2 fIx (mVar 3) (mVar 4)))) (own := [4]) (fun n : Nat => D.int (n : Int)) (fun n : Nat => D.int (bit x n : Nat)) ⟨[some (.d (.int w)), some (.d (.tup (iN o))), some (.d (.int x)), some (.m (.l (iN ((List.range w).map (bit x))))), none], g⟩ o (by
    intro k hk
    have hk' := ord_lt ho hk
    have hl : k < ((List.range w).map (bit x)).length := by simpa using hk'
    have ea := atI_iN hl
    simp only [List.getElem_map, List.getElem_range] at ea
    refine ⟨⟨[some (.d (.int w)), some (.d (.tup (iN o))), some (.d (.int x)), some (.m (.l (iN ((List.range w).map (bit x))))), some (.d (.int k))], g⟩, ⟨[some (.d (.int w)), some (.d (.tup (iN o))), some (.d (.int x)), some (.m (.l (iN ((List.range w).map (bit x))))), some (.d (.int k))], g⟩, rfl, ?_, rfl⟩
    simp [ea]) (by rw [ord_len ho]; unfold lim; omega)
  have e1 : List.map (fun n : Nat => D.int (bit x n : Nat)) o = iN (o.map (bit x)) := by simp [iN]
  have e2 : List.map (fun n : Nat => D.int (n : Int)) o = iN o := rfl
  rw [e1, e2] at e
  have en := e_number (o.map (bit x)) g
  have eb := e_bits h2 x g
  unfold laidN
  simp [F__law_laid, m__law_laid, eb, e, en]
end Law
namespace Law
open PySem PySem.Spec PyProof.Rows L2 Y
theorem e_are_ints {o : List Nat} (hn : o.length ≤ 1000) (g : G) : F_are_integers [.tup (iN o)] g = .ok (.d (.bl true)) g := by
  have e := lc_mapK (g := gN 1) (me := (mKeepX (mCall F_is_integer (mCons (mKeep (mVar 1)) mNil)))) (own := [1]) (fun n : Nat => D.int (n : Int)) (fun _ : Nat => D.bl true) ⟨[some (.d (.tup (iN o))), none], g⟩ o (by
    intro k hk
    refine ⟨⟨[some (.d (.tup (iN o))), some (.d (.int k))], g⟩, ⟨[some (.d (.tup (iN o))), some (.d (.int k))], g⟩, rfl, ?_, rfl⟩
    simp [e_is_integer]) (by unfold lim; omega)
  have e1 : List.map (fun _ : Nat => D.bl true) o = List.replicate o.length (D.bl true) := List.map_const'
  have e2 : List.map (fun n : Nat => D.int (n : Int)) o = iN o := rfl
  rw [e1, e2] at e
  simp [F_are_integers, m_are_integers, e, bls_true]
theorem zI_mem {o : List Nat} {x : Int} : x ∈ zI o ↔ ∃ n ∈ o, (n : Int) = x := by simp [zI]
theorem sort_ord {w : Nat} {o : List Nat} (ho : o.Perm (List.range w)) : sortI (zI o) = zI (List.range w) := by
  refine sortI_of ?_ ?_ ?_
  · unfold zI
    refine List.pairwise_map.mpr ((ord_nodup ho).imp ?_)
    intro a b hab hc
    exact hab (by omega)
  · unfold zI
    refine List.pairwise_map.mpr (List.pairwise_lt_range.imp ?_)
    intro a b hab
    omega
  · intro x
    rw [zI_mem, zI_mem]
    constructor
    · rintro ⟨n, hn, e⟩
      exact ⟨n, ho.mem_iff.mp hn, e⟩
    · rintro ⟨n, hn, e⟩
      exact ⟨n, ho.mem_iff.mpr hn, e⟩
theorem e_is_order {w : Nat} {o : List Nat} (h1 : 1 ≤ w) (h2 : w ≤ 64) (ho : o.Perm (List.range w)) (g : G) : F_is_order [.int w, .tup (iN o)] g = .ok (.d (.bl true)) g := by
  have ei := e_are_ints (o := o) (by rw [ord_len ho]; omega) g
  have iw : inR (w : Int) = true := inR_of (by omega) (by omega)
  have hs := sort_ord ho
  rw [iN_z] at ei
  have hr : rgD 0 w = (zI (List.range w)).map D.int := by rw [iN_range, iN_z]
  have hc := e_check_width h1 h2 g
  simp [F_is_order, m_is_order, hc, iN_z, ei, iw, hs, hr, show w ≤ 16777216 by omega]
theorem e_check_order {w : Nat} {o : List Nat} (h1 : 1 ≤ w) (h2 : w ≤ 64) (ho : o.Perm (List.range w)) (g : G) : F_check_order [.int w, .tup (iN o)] g = .ok (.d .non) g := by
  simp [F_check_order, m_check_order, e_is_order h1 h2 ho]
theorem enum_iN (o : List Nat) : enumD (iN o) = (List.range o.length).map fun (k : Nat) => .tup [.int (k : Int), .int (o.getD k 0 : Nat)] := by
  unfold enumD
  rw [iN_len]
  refine List.map_congr_left fun k hk => ?_
  have hk' := List.mem_range.mp hk
  congr 3
  rw [List.getD_eq_getElem?_getD, iN_at, List.getElem?_eq_getElem hk', List.getD_eq_getElem?_getD, List.getElem?_eq_getElem hk']
  rfl
theorem getD_at {o : List Nat} {k : Nat} (h : k < o.length) : o.getD k 0 = o[k] := by
  rw [List.getD_eq_getElem?_getD, List.getElem?_eq_getElem h]
  rfl
theorem map_getD (o : List Nat) (f : Nat → Nat) : (List.range o.length).map (fun k => f (o.getD k 0)) = o.map f := by
  apply List.ext_getElem
  · simp
  · intro i h1 h2
    have : i < o.length := by simpa using h2
    rw [List.getElem_map, List.getElem_range, List.getElem_map, getD_at this]
theorem sum_num : ∀ (n : Nat) (f : Nat → Nat), ((List.range n).map fun k => ((f k * 2 ^ k : Nat) : Int)).sum = ((num ((List.range n).map f) : Nat) : Int)
  | 0, f => rfl
  | n + 1, f => by
    have ih := sum_num n (fun k => f (k + 1))
    rw [List.range_succ_eq_map, List.map_cons, List.map_cons, List.map_map, List.map_map, List.sum_cons, num_cons]
    have e : ((fun k => ((f k * 2 ^ k : Nat) : Int)) ∘ Nat.succ) = fun k => 2 * ((f (k + 1) * 2 ^ k : Nat) : Int) := by
      funext k
      show ((f (k + 1) * 2 ^ (k + 1) : Nat) : Int) = _
      rw [Nat.pow_succ, ← Nat.mul_assoc]
      omega
    have e2 : ∀ (l : List Nat) (h : Nat → Int), (l.map fun k => 2 * h k).sum = 2 * (l.map h).sum := by
      intro l h
      induction l with
      | nil => rfl
      | cons a l ih =>
        rw [List.map_cons, List.map_cons, List.sum_cons, List.sum_cons, ih]
        omega
    rw [e, e2, ih]
    show _ = ((f 0 + 2 * num (List.map (f ∘ Nat.succ) (List.range n)) : Nat) : Int)
    have e3 : (f ∘ Nat.succ) = fun k => f (k + 1) := rfl
    rw [e3]
    omega
theorem and1 (x : Nat) : Builtin.bitAnd (x : Int) 1 = ((x % 2 : Nat) : Int) := by
  have := Bits.bitAnd_mask (x := (x : Int)) 1 (by omega)
  simpa using this
theorem shN (d p : Nat) : (d : Int) / 2 ^ p = ((d / 2 ^ p : Nat) : Int) := by simp
theorem e_laid_of {w : Nat} {o : List Nat} (h2 : w ≤ 64) (ho : o.Perm (List.range w)) (x : Nat) (g : G) : F_laid_of [.tup (iN o), .int x] g = .ok (.d (.int (laidN o x))) g := by
  have hw := ord_len ho
  have e := lc_mapK (g := gT 2 (gsC (gN 2) (gsC (gN 3) gsN))) (me := e1_laid_of) (own := [2, 3]) (fun (k : Nat) => D.tup [.int (k : Int), .int (o.getD k 0 : Nat)]) (fun k : Nat => D.int ((bit x (o.getD k 0) * 2 ^ k : Nat) : Int)) ⟨[some (.d (.tup (iN o))), some (.d (.int x)), none, none], g⟩ (List.range o.length) (by
    intro k hk
    have hk' := List.mem_range.mp hk
    refine ⟨⟨[some (.d (.tup (iN o))), some (.d (.int x)), some (.d (.int k)), some (.d (.int (o.getD k 0 : Nat)))], g⟩, ⟨[some (.d (.tup (iN o))), some (.d (.int x)), some (.d (.int k)), some (.d (.int (o.getD k 0 : Nat)))], g⟩, rfl, ?_, rfl⟩
    generalize o.getD k 0 = p
    have hb : Builtin.bitAnd ((x : Int) / 2 ^ p) 1 = ((bit x p : Nat) : Int) := by rw [shN, and1]; rfl
    have hle := bit_le x p
    have hs : shlC (bit x p : Int) (k : Int) = true := shlC_of (by omega) (by omega) (sm_of (by omega) (by omega))
    have hm : ((bit x p : Nat) : Int) * 2 ^ k = ((bit x p * 2 ^ k : Nat) : Int) := by simp
    simp [e1_laid_of, hb, hs, hm, -Int.natCast_mul, -Int.natCast_pow]) (by rw [List.length_range, hw]; unfold lim; omega)
  have hi : intsOf ((List.range o.length).map fun k : Nat => D.int ((bit x (o.getD k 0) * 2 ^ k : Nat) : Int)) = some ((List.range o.length).map fun k : Nat => ((bit x (o.getD k 0) * 2 ^ k : Nat) : Int)) := by
    have := intsOf_map ((List.range o.length).map fun k : Nat => ((bit x (o.getD k 0) * 2 ^ k : Nat) : Int))
    rw [List.map_map] at this
    exact this
  have hsum := sum_num o.length (fun k => bit x (o.getD k 0))
  rw [map_getD o (bit x)] at hsum
  rw [← enum_iN] at e
  unfold laidN
  generalize hL : ((List.range o.length).map fun k : Nat => D.int ((bit x (o.getD k 0) * 2 ^ k : Nat) : Int)) = L at *
  generalize hM : ((List.range o.length).map fun k : Nat => ((bit x (o.getD k 0) * 2 ^ k : Nat) : Int)) = M at *
  simp [F_laid_of, m_laid_of, e, hi, hsum]
theorem e_laid {w : Nat} {o : List Nat} (h1 : 1 ≤ w) (h2 : w ≤ 64) (ho : o.Perm (List.range w)) {x : Nat} (hx : x < 2 ^ w) (g : G) : F_laid [.int w, .tup (iN o), .int x] g = .ok (.d (.int (laidN o x))) g := by
  simp [F_laid, m_laid, e_check_order h1 h2 ho, e_check_word h1 h2 hx, e_laid_of h2 ho]
/-! ### one order behind another -/
def behN (a b : List Nat) : List Nat := b.map fun p => a.getD p 0
theorem beh_walk {w : Nat} {a b : List Nat} (h2 : w ≤ 64) (ha : a.Perm (List.range w)) (hb : b.Perm (List.range w)) (sl : List (Option SV)) (j i : Nat) (st : MS) (ix : Mo E1) (hr : ∀ k : Nat, k < w → ∃ s1, gN j (.int (k : Int)) st = some s1 ∧ mKeep (mOp2 fIx ix (mVar j)) s1 = .ok (.int (a.getD k 0 : Nat)) s1 ∧ ({ s1 with sl := wipeS s1.sl [j] } : MS) = st) :
    lcL (gN j) mYes (mKeep (mOp2 fIx ix (mVar j))) [j] (iN b) [] st = .ok (iN (behN a b)) st := by
  have e := lc_mapK (g := gN j) (me := mKeep (mOp2 fIx ix (mVar j))) (own := [j]) (fun n : Nat => D.int (n : Int)) (fun n : Nat => D.int (a.getD n 0 : Nat)) st b (by
    intro k hk
    obtain ⟨s1, q1, q2, q3⟩ := hr k (ord_lt hb hk)
    exact ⟨s1, s1, q1, q2, q3⟩) (by rw [ord_len hb]; unfold lim; omega)
  have e1 : List.map (fun n : Nat => D.int (a.getD n 0 : Nat)) b = iN (behN a b) := by simp [iN, behN]
  rw [e1] at e
  exact e
theorem beh_ord {w : Nat} {a b : List Nat} (ha : a.Perm (List.range w)) (hb : b.Perm (List.range w)) : (behN a b).Perm (List.range w) := by
  have h1 : (behN a b).Perm ((List.range w).map fun p => a.getD p 0) := hb.map _
  have h2 : (List.range w).map (fun p => a.getD p 0) = a := by
    have := map_getD a id
    rw [ord_len ha] at this
    simpa using this
  rw [h2] at h1
  exact h1.trans ha
theorem beh_len (a b : List Nat) : (behN a b).length = b.length := by simp [behN]
theorem laid_beh {w : Nat} {a b : List Nat} (ha : a.Perm (List.range w)) (hb : b.Perm (List.range w)) (x : Nat) : laidN (behN a b) x = laidN b (laidN a x) := by
  have l1 := laid_lt (behN a b) x
  have l2 := laid_lt b (laidN a x)
  rw [beh_len] at l1
  refine bits_ext l1 l2 fun p hp => ?_
  rw [laid_bit x (by rw [beh_len]; exact hp), laid_bit _ hp]
  have hb' : b[p] < a.length := by rw [ord_len ha]; exact ord_lt hb (List.getElem_mem _)
  rw [laid_bit x hb']
  congr 1
  simp [behN, List.getElem?_eq_getElem hb']
end Law
namespace Law
open PySem PySem.Spec PyProof.Rows L2 Y
theorem idx_at : ∀ {o : List Nat} {i : Nat} (hn : o.Nodup) (h : i < o.length), o.idxOf o[i] = i
  | x :: o, 0, _, _ => by simp
  | x :: o, i + 1, hn, h => by
    have h' : i < o.length := by simpa using h
    have hx : x ≠ o[i] := fun e => (List.nodup_cons.mp hn).1 (e ▸ List.getElem_mem h')
    show (x :: o).idxOf o[i] = i + 1
    rw [List.idxOf_cons, beq_false_of_ne hx, cond_false, idx_at (List.nodup_cons.mp hn).2 h']
theorem at_idx : ∀ {o : List Nat} {p : Nat} (h : p ∈ o), ∃ hl : o.idxOf p < o.length, o[o.idxOf p] = p
  | x :: o, p, h => by
    by_cases e : x = p
    · subst e
      exact ⟨by simp, by simp⟩
    · have h' : p ∈ o := (List.mem_cons.mp h).resolve_left fun z => e z.symm
      obtain ⟨hl, ha⟩ := at_idx h'
      have hi : (x :: o).idxOf p = o.idxOf p + 1 := by rw [List.idxOf_cons, beq_false_of_ne e, cond_false]
      refine ⟨by rw [hi, List.length_cons]; omega, ?_⟩
      simp only [hi, List.getElem_cons_succ]
      exact ha
theorem idx_z (o : List Nat) (p : Nat) : (zI o).idxOf (p : Int) = o.idxOf p := by
  induction o with
  | nil => rfl
  | cons x o ih =>
    show ((x : Int) :: zI o).idxOf (p : Int) = _
    rw [List.idxOf_cons, List.idxOf_cons, ih]
    by_cases e : x = p
    · subst e
      simp
    · rw [beq_false_of_ne e, beq_false_of_ne (show (x : Int) ≠ p by omega)]
def backN (w : Nat) (o : List Nat) : List Nat := (List.range w).map fun p => o.idxOf p
theorem back_len (w : Nat) (o : List Nat) : (backN w o).length = w := by simp [backN]
theorem back_at {w : Nat} {o : List Nat} {p : Nat} (h : p < w) : (backN w o).getD p 0 = o.idxOf p := by
  rw [getD_at (by rw [back_len]; exact h)]
  simp [backN]
theorem back_ord {w : Nat} {o : List Nat} (ho : o.Perm (List.range w)) : (backN w o).Perm (List.range w) := by
  have h1 : (backN w o).Perm (o.map fun p => o.idxOf p) := (ho.map _).symm
  refine h1.trans ?_
  have h2 : o.map (fun p => o.idxOf p) = List.range w := by
    apply List.ext_getElem
    · simp [ord_len ho]
    · intro i q1 q2
      have hi : i < o.length := by simpa using q1
      rw [List.getElem_map, List.getElem_range, idx_at (ord_nodup ho) hi]
  rw [h2]
theorem beh_back {w : Nat} {o : List Nat} (ho : o.Perm (List.range w)) : behN o (backN w o) = List.range w := by
  unfold behN backN
  rw [List.map_map]
  have : ∀ p ∈ List.range w, ((fun p => o.getD p 0) ∘ fun p => o.idxOf p) p = p := fun p hp => by
    obtain ⟨hl, ha⟩ := at_idx (ord_mem ho (List.mem_range.mp hp))
    show o.getD (o.idxOf p) 0 = p
    rw [getD_at hl, ha]
  rw [List.map_congr_left this, List.map_id']
theorem laid_range {w x : Nat} (hx : x < 2 ^ w) : laidN (List.range w) x = x := num_self w x hx
/-- what stands behind k steps -/
def bkN (o : List Nat) (k p : Nat) : Nat := if o.idxOf p < k then o.idxOf p else 0
theorem bk_loop {w : Nat} {o : List Nat} (h1 : 1 ≤ w) (h2 : w ≤ 64) (ho : o.Perm (List.range w)) (S : List D → List (Option SV)) (g : G) (body : MoS) (gt : Gt) (wp : List Nat)
    (hb : ∀ (j p : Nat) (ds : List D), p < w → ds.length = w → ∃ s1 s2, gt (.tup [.int (j : Int), .int (p : Int)]) ⟨S ds, g⟩ = some s1 ∧ body s1 = .nx s2 ∧ ({ s2 with sl := wipeS s2.sl wp } : MS) = ⟨S (ds.set p (.int (j : Int))), g⟩) :
    mForL gt body wp (enumD (iN o)) ⟨S (iN (List.replicate w 0)), g⟩ = .nx ⟨S (iN (backN w o)), g⟩ := by
  have hw := ord_len ho
  obtain ⟨st', e, hi⟩ := for_inv (g := gt) (body := body) (wp := wp) (fun k st => k ≤ w → st = ⟨S (iN ((List.range w).map (bkN o k))), g⟩) (enumD (iN o)) 0 ⟨S (iN (List.replicate w 0)), g⟩ (by
    intro _
    have : (List.range w).map (bkN o 0) = List.replicate w 0 := by
      have e : bkN o 0 = fun _ => 0 := by funext p; unfold bkN; simp
      rw [e, List.map_const', List.length_range]
    rw [this]) (by
    intro j d st hd hst
    obtain ⟨x, hx, rfl⟩ := enumD_get hd
    rw [iN_at] at hx
    obtain ⟨p, hp, rfl⟩ := Option.map_eq_some_iff.mp hx
    obtain ⟨hj, rfl⟩ := List.getElem?_eq_some_iff.mp hp
    rw [Nat.zero_add] at hst ⊢
    have e := hst (by omega)
    subst e
    obtain ⟨s1, s2, q1, q2, q3⟩ := hb j o[j] (iN ((List.range w).map (bkN o j))) (ord_lt ho (List.getElem_mem _)) (by simp)
    refine ⟨s1, s2, q1, q2, fun _ => ?_⟩
    rw [q3, iN_set]
    have : ((List.range w).map (bkN o j)).set o[j] j = (List.range w).map (bkN o (j + 1)) := by
      apply List.ext_getElem
      · simp
      · intro i r1 r2
        have hi : i < w := by simpa using r2
        rw [List.getElem_set]
        simp only [List.getElem_map, List.getElem_range]
        obtain ⟨u1, u2⟩ := at_idx (ord_mem ho hi)
        have uj := idx_at (ord_nodup ho) hj
        split
        · rename_i e
          subst e
          unfold bkN
          rw [uj, if_pos (by omega)]
        · rename_i e
          have hne : o.idxOf i ≠ j := fun z => by
            subst z
            exact e u2
          unfold bkN
          by_cases z : o.idxOf i < j
          · rw [if_pos z, if_pos (by omega)]
          · rw [if_neg z, if_neg (by omega)]
    rw [this])
  have hl : (enumD (iN o)).length = w := by rw [enum_iN]; simp [hw]
  rw [hl, Nat.zero_add] at hi
  have hi := hi (Nat.le_refl _)
  subst hi
  rw [e]
  have : (List.range w).map (bkN o w) = backN w o := by
    unfold backN
    refine List.map_congr_left fun p hp => ?_
    obtain ⟨u1, _⟩ := at_idx (ord_mem ho (List.mem_range.mp hp))
    unfold bkN
    rw [if_pos (by omega)]
  rw [this]
theorem rep_iN (w : Nat) : List.replicate w (D.int 0) = iN (List.replicate w 0) := by simp [iN]
end Law
namespace Law
open PySem PySem.Spec PyProof.Rows L2 Y
theorem lc_filterK {α : Type} {g : Gt} {mt : Mo Bool} {me : Mo D} {own : List Nat} (p : α → Bool) (it f : α → D) (st : MS) (ks : List α) (hi : ∀ k ∈ ks, ∃ s1, g (it k) st = some s1 ∧ mt s1 = .ok (p k) s1 ∧ me s1 = .ok (f k) s1 ∧ ({ s1 with sl := wipeS s1.sl own } : MS) = st) (hl : ks.length ≤ lim) : lcL g mt me own (ks.map it) [] st = .ok ((ks.filter p).map f) st := by
  have key : ∀ (ks : List α) (acc : List D), (∀ k ∈ ks, ∃ s1, g (it k) st = some s1 ∧ mt s1 = .ok (p k) s1 ∧ me s1 = .ok (f k) s1 ∧ ({ s1 with sl := wipeS s1.sl own } : MS) = st) → acc.length + ks.length ≤ lim → lcL g mt me own (ks.map it) acc st = .ok (acc ++ (ks.filter p).map f) st := by
    intro ks
    induction ks with
    | nil => intro acc _ _; rw [List.map_nil, List.filter_nil, List.map_nil, List.append_nil]; rfl
    | cons x xs ih =>
      intro acc hi hl
      obtain ⟨s1, e1, e2, e3, e4⟩ := hi x List.mem_cons_self
      have hl' : acc.length + (xs.length + 1) ≤ lim := hl
      have hi' := fun y hy => hi y (List.mem_cons_of_mem _ hy)
      rw [List.map_cons]
      unfold lcL
      simp only [e1, e2]
      cases hp : p x with
      | true =>
        simp only [if_true, e3, e4]
        rw [if_pos (decide_eq_true (by omega)), ih (acc ++ [f x]) hi' (by rw [List.length_append, List.length_singleton]; omega), List.append_assoc, List.filter_cons_of_pos hp]
        rfl
      | false =>
        simp only [Bool.false_eq_true, if_false, e4]
        rw [ih acc hi' (by omega), List.filter_cons_of_neg (by simp [hp])]
  have := key ks [] hi (by simpa using hl)
  simpa using this
/-! ### the known orders -/
def mirN (w : Nat) : List Nat := (List.range w).reverse
def turN (w : Nat) : List Nat := (List.range w).map fun p => (p + (w - 1)) % w
def evN (w : Nat) : List Nat := (List.range w).filter (fun p => decide (p % 2 = 0)) ++ (List.range w).filter fun p => decide (p % 2 = 1)
theorem split_perm (l : List Nat) (p q : Nat → Bool) (h : ∀ x ∈ l, q x = !p x) : (l.filter p ++ l.filter q).Perm l := by
  have e : l.filter q = l.filter fun x => !p x := List.filter_congr h
  rw [e]
  exact List.filter_append_perm p l
theorem ev_ord (w : Nat) : (evN w).Perm (List.range w) := split_perm _ _ _ fun x _ => by
  by_cases h : x % 2 = 0
  · rw [decide_eq_true h, decide_eq_false (by omega)]
    rfl
  · rw [decide_eq_false h, decide_eq_true (by omega)]
    rfl
theorem mir_ord (w : Nat) : (mirN w).Perm (List.range w) := List.reverse_perm _
theorem tur_all : ∀ w : Nat, w < 65 → ∀ p, p ∈ turN w ↔ p ∈ List.range w := by
  intro w hw p
  unfold turN
  rw [List.mem_map, List.mem_range]
  constructor
  · rintro ⟨q, hq, rfl⟩
    have := List.mem_range.mp hq
    exact Nat.mod_lt _ (by omega)
  · intro hp
    by_cases h : p + 1 < w
    · refine ⟨p + 1, List.mem_range.mpr h, ?_⟩
      rw [show p + 1 + (w - 1) = p + w by omega, Nat.add_mod_right, Nat.mod_eq_of_lt hp]
    · refine ⟨0, List.mem_range.mpr (by omega), ?_⟩
      rw [show 0 + (w - 1) = p by omega, Nat.mod_eq_of_lt hp]
theorem tur_at {w p : Nat} (hp : p < w) : (p + (w - 1)) % w = if p = 0 then w - 1 else p - 1 := by
  by_cases h : p = 0
  · subst h
    rw [if_pos rfl, Nat.mod_eq_of_lt (by omega)]
    omega
  · rw [if_neg h, show p + (w - 1) = p - 1 + w by omega, Nat.add_mod_right, Nat.mod_eq_of_lt (by omega)]
theorem tur_get {w i : Nat} (h : i < (turN w).length) : (turN w)[i] = (i + (w - 1)) % w := by simp [turN]
theorem tur_ord {w : Nat} (h1 : 1 ≤ w) : (turN w).Perm (List.range w) := by
  have e : turN w = (w - 1) :: List.range (w - 1) := by
    apply List.ext_getElem
    · simp [turN]
      omega
    · intro i q1 q2
      have hi : i < w := by simpa [turN] using q1
      rw [tur_get, tur_at hi]
      cases i with
      | zero => simp
      | succ i => simp
  rw [e]
  obtain ⟨n, rfl⟩ : ∃ n, w = n + 1 := ⟨w - 1, by omega⟩
  rw [show n + 1 - 1 = n by omega, List.range_succ]
  exact (List.perm_append_comm (l₁ := [n]) (l₂ := List.range n))
theorem in4 (z : D) : (∃ s : Str, z = .str s ∧ (s = "mirror" ∨ s = "halves" ∨ s = "evens" ∨ s = "turn")) → fIn true z (.tup [.str "mirror", .str "halves", .str "evens", .str "turn"]) = some (.bl false) := by
  rintro ⟨s, rfl, rfl | rfl | rfl | rfl⟩ <;> kernel_rfl
theorem q_mm : fEq (.str "mirror") (.str "mirror") = some (.bl true) := by kernel_rfl
theorem q_tm : fEq (.str "turn") (.str "mirror") = some (.bl false) := by kernel_rfl
theorem q_em : fEq (.str "evens") (.str "mirror") = some (.bl false) := by kernel_rfl
theorem q_hm : fEq (.str "halves") (.str "mirror") = some (.bl false) := by kernel_rfl
theorem q_tt : fEq (.str "turn") (.str "turn") = some (.bl true) := by kernel_rfl
theorem q_et : fEq (.str "evens") (.str "turn") = some (.bl false) := by kernel_rfl
theorem q_ht : fEq (.str "halves") (.str "turn") = some (.bl false) := by kernel_rfl
theorem q_ee : fEq (.str "evens") (.str "evens") = some (.bl true) := by kernel_rfl
theorem q_he : fEq (.str "halves") (.str "evens") = some (.bl false) := by kernel_rfl
theorem step_mir {w : Nat} (h1 : 1 ≤ w) (h2 : w ≤ 64) : stepN ((w : Int) - 1) (-1) (-1) = some w := by
  have : ∀ w : Fin 65, 1 ≤ w.val → stepN ((w.val : Int) - 1) (-1) (-1) = some w.val := by decide +kernel
  exact this ⟨w, by omega⟩ h1
theorem rg_mir (w : Nat) : rgC ((w : Int) - 1) (-1) w = iN (mirN w) := by
  apply List.ext_getElem
  · simp [mirN]
  · intro i q1 q2
    have hi : i < w := by simpa using q1
    simp [rgC, mirN, iN]
    omega
theorem e_mirror {w : Nat} (h1 : 1 ≤ w) (h2 : w ≤ 64) (g : G) : F_known_order [.str "mirror", .int w] g = .ok (.d (.tup (iN (mirN w)))) g := by
  have i4 := in4 (.str "mirror") ⟨_, rfl, .inl rfl⟩
  simp [F_known_order, m_known_order, e_check_width h1 h2, i4, q_mm, step_mir h1 h2, rg_mir, lim, show w ≤ 16777216 by omega]
theorem e_turn {w : Nat} (h1 : 1 ≤ w) (h2 : w ≤ 64) (g : G) : F_known_order [.str "turn", .int w] g = .ok (.d (.tup (iN (turN w)))) g := by
  have i4 := in4 (.str "turn") ⟨_, rfl, .inr (.inr (.inr rfl))⟩
  have iw : inR (w : Int) = true := inR_of (by omega) (by omega)
  have e := lc_mapK (g := gN 5) (me := e4_known_order) (own := [5]) (fun n : Nat => D.int (n : Int)) (fun n : Nat => D.int (((n + (w - 1)) % w : Nat) : Int)) ⟨[some (.d (.str "turn")), some (.d (.int w)), none, none, none, none], g⟩ (List.range w) (by
    intro k hk
    have hk' := List.mem_range.mp hk
    refine ⟨⟨[some (.d (.str "turn")), some (.d (.int w)), none, none, none, some (.d (.int k))], g⟩, ⟨[some (.d (.str "turn")), some (.d (.int w)), none, none, none, some (.d (.int k))], g⟩, rfl, ?_, rfl⟩
    have hm : ((k : Int) - 1) % (w : Int) = (((k + (w - 1)) % w : Nat) : Int) := by
      have : ((k : Int) - 1) = ((k + (w - 1) : Nat) : Int) - w := by omega
      rw [this, Int.sub_emod_right]
      simp
    have hw : 0 < w := by omega
    generalize (k + (w - 1)) % w = r at *
    simp [e4_known_order, hm, hw]) (by rw [List.length_range]; unfold lim; omega)
  have e1 : List.map (fun n : Nat => D.int (((n + (w - 1)) % w : Nat) : Int)) (List.range w) = iN (turN w) := by
    unfold turN iN
    rw [List.map_map]
    rfl
  have e2 : List.map (fun n : Nat => D.int (n : Int)) (List.range w) = iN (List.range w) := rfl
  rw [e1, e2] at e
  simp [F_known_order, m_known_order, e_check_width h1 h2, i4, q_tm, q_tt, iw, iN_range, e, lim]
theorem ev_walk {w : Nat} (h2 : w ≤ 64) (s : D) (g : G) (mt : Mo Bool) (r : Nat) (hr : r ≤ 1) (ht : ∀ k : Nat, mt ⟨[some (.d s), some (.d (.int w)), none, none, none, some (.d (.int k))], g⟩ = .ok (decide (k % 2 = r)) ⟨[some (.d s), some (.d (.int w)), none, none, none, some (.d (.int k))], g⟩) :
    lcL (gN 5) mt (mKeep (mVar 5)) [5] (iN (List.range w)) [] ⟨[some (.d s), some (.d (.int w)), none, none, none, none], g⟩ = .ok (iN ((List.range w).filter fun p => decide (p % 2 = r))) ⟨[some (.d s), some (.d (.int w)), none, none, none, none], g⟩ :=
  lc_filterK (fun p => decide (p % 2 = r)) (fun n : Nat => D.int (n : Int)) (fun n : Nat => D.int (n : Int)) _ (List.range w) (fun k hk => ⟨⟨[some (.d s), some (.d (.int w)), none, none, none, some (.d (.int k))], g⟩, rfl, ht k, by simp, rfl⟩) (by rw [List.length_range]; unfold lim; omega)
theorem t2_ok {w k : Nat} (s : D) (g : G) : t2_known_order ⟨[some (.d s), some (.d (.int w)), none, none, none, some (.d (.int k))], g⟩ = .ok (decide (k % 2 = 0)) ⟨[some (.d s), some (.d (.int w)), none, none, none, some (.d (.int k))], g⟩ := by
  have e : (decide ((k : Int) % 2 = 0)) = decide (k % 2 = 0) := decide_eq_decide.mpr (by omega)
  simp only [t2_known_order]
  simp [e]
theorem t3_ok {w k : Nat} (s : D) (g : G) : t3_known_order ⟨[some (.d s), some (.d (.int w)), none, none, none, some (.d (.int k))], g⟩ = .ok (decide (k % 2 = 1)) ⟨[some (.d s), some (.d (.int w)), none, none, none, some (.d (.int k))], g⟩ := by
  have e : (decide ((k : Int) % 2 = 1)) = decide (k % 2 = 1) := decide_eq_decide.mpr (by omega)
  simp only [t3_known_order]
  simp [e]
theorem e_evens {w : Nat} (h1 : 1 ≤ w) (h2 : w ≤ 64) (g : G) : F_known_order [.str "evens", .int w] g = .ok (.d (.tup (iN (evN w)))) g := by
  have i4 := in4 (.str "evens") ⟨_, rfl, .inr (.inr (.inl rfl))⟩
  have iw : inR (w : Int) = true := inR_of (by omega) (by omega)
  have a := ev_walk h2 (.str "evens") g t2_known_order 0 (by omega) (fun k => t2_ok _ g)
  have b := ev_walk h2 (.str "evens") g t3_known_order 1 (by omega) (fun k => t3_ok _ g)
  have hl := (ev_ord w).length_eq
  unfold evN at hl
  rw [List.length_append, List.length_range] at hl
  unfold evN
  generalize (List.range w).filter (fun p => decide (p % 2 = 0)) = A at *
  generalize (List.range w).filter (fun p => decide (p % 2 = 1)) = B at *
  simp [F_known_order, m_known_order, e_check_width h1 h2, i4, q_em, q_et, q_ee, iw, iN_range, a, b, iN_app, lim, hl, show w ≤ 1000000 by omega]
theorem e_halves {w : Nat} (h1 : 1 ≤ w) (h2 : w ≤ 64) (g : G) : F_known_order [.str "halves", .int w] g = .ok (.d (.tup (iN (backN w (evN w))))) g := by
  have i4 := in4 (.str "halves") ⟨_, rfl, .inr (.inl rfl)⟩
  have iw : inR (w : Int) = true := inR_of (by omega) (by omega)
  have a := ev_walk h2 (.str "halves") g t2_known_order 0 (by omega) (fun k => t2_ok _ g)
  have b := ev_walk h2 (.str "halves") g t3_known_order 1 (by omega) (fun k => t3_ok _ g)
  have hl := (ev_ord w).length_eq
  have hev : evN w = (List.range w).filter (fun p => decide (p % 2 = 0)) ++ (List.range w).filter fun p => decide (p % 2 = 1) := rfl
  have e := bk_loop h1 h2 (ev_ord w) (fun ds => [some (.d (.str "halves")), some (.d (.int w)), some (.d (.lst (iN (evN w)))), some (.m (.l ds)), none, none]) g b1_known_order (gT 2 (gsC (gN 4) (gsC (gN 5) gsN))) [4, 5] (by
    intro j p ds hp hl
    refine ⟨⟨[some (.d (.str "halves")), some (.d (.int w)), some (.d (.lst (iN (evN w)))), some (.m (.l ds)), some (.d (.int j)), some (.d (.int p))], g⟩, ⟨[some (.d (.str "halves")), some (.d (.int w)), some (.d (.lst (iN (evN w)))), some (.m (.l (ds.set p (.int j)))), some (.d (.int j)), some (.d (.int p))], g⟩, rfl, ?_, rfl⟩
    have hx := ixN_nat (n := ds.length) (i := p) (by omega)
    simp [b1_known_order, hx])
  have hl2 := hl
  rw [hev, List.length_append, List.length_range] at hl2
  rw [hev] at e
  rw [hev]
  generalize (List.range w).filter (fun p => decide (p % 2 = 0)) = A at *
  generalize (List.range w).filter (fun p => decide (p % 2 = 1)) = B at *
  simp [F_known_order, m_known_order, e_check_width h1 h2, i4, q_hm, q_ht, q_he, iw, iN_range, a, b, iN_app, lim, hl2, rep_iN, e, show w ≤ 1000000 by omega]
end Law
namespace Law
open PySem PySem.Spec PyProof.Rows L2 Y
/-! ### exchanges -/
abbrev Lv := Nat × Nat
structure LvOk (w : Nat) (l : Lv) : Prop where
  s1 : 1 ≤ l.2
  s2 : l.2 ≤ w
  hi : l.1 * 2 ^ l.2 < 2 ^ w
  ap : l.1 &&& (l.1 * 2 ^ l.2) = 0
def sw (l : Lv) (p : Nat) : Nat := if l.1.testBit p = true then p + l.2 else if l.2 ≤ p ∧ l.1.testBit (p - l.2) = true then p - l.2 else p
def exN (x : Nat) (l : Lv) : Nat := x ^^^ (((x / 2 ^ l.2) ^^^ x) &&& l.1) ^^^ ((((x / 2 ^ l.2) ^^^ x) &&& l.1) * 2 ^ l.2)
theorem LvOk.apart {w : Nat} {l : Lv} (h : LvOk w l) {p : Nat} (hp : l.1.testBit p = true) : l.1.testBit (p + l.2) = false := by
  have e : (l.1 &&& (l.1 * 2 ^ l.2)).testBit (p + l.2) = false := by rw [h.ap]; exact Nat.zero_testBit _
  rw [Nat.testBit_and, Nat.testBit_mul_two_pow] at e
  simpa [hp] using e
theorem LvOk.top {w : Nat} {l : Lv} (h : LvOk w l) {p : Nat} (hp : l.1.testBit p = true) : p + l.2 < w := by
  have e : (l.1 * 2 ^ l.2).testBit (p + l.2) = true := by
    rw [Nat.testBit_mul_two_pow]
    simp [hp]
  apply Classical.byContradiction
  intro hn
  rw [Nat.testBit_lt_two_pow (Nat.lt_of_lt_of_le h.hi (Nat.pow_le_pow_right (by decide) (by omega)))] at e
  cases e
theorem LvOk.lt {w : Nat} {l : Lv} (h : LvOk w l) : l.1 < 2 ^ w :=
  Nat.lt_of_le_of_lt (Nat.le_mul_of_pos_right _ (Nat.two_pow_pos _)) h.hi
theorem sw_lt {w : Nat} {l : Lv} (h : LvOk w l) {p : Nat} (hp : p < w) : sw l p < w := by
  unfold sw
  split
  · rename_i q
    exact h.top q
  · split <;> omega
theorem sw_out {w : Nat} {l : Lv} (h : LvOk w l) {p : Nat} (hp : w ≤ p) : sw l p = p := by
  unfold sw
  split
  · rename_i q
    have := h.top q
    omega
  · split
    · rename_i q
      have := h.top q.2
      omega
    · rfl
theorem sw_sw {w : Nat} {l : Lv} (h : LvOk w l) (p : Nat) : sw l (sw l p) = p := by
  by_cases h1 : l.1.testBit p = true
  · have e : sw l p = p + l.2 := by unfold sw; rw [if_pos h1]
    rw [e]
    unfold sw
    rw [if_neg (by rw [h.apart h1]; decide), if_pos ⟨by omega, by rw [Nat.add_sub_cancel]; exact h1⟩]
    omega
  · by_cases h2 : l.2 ≤ p ∧ l.1.testBit (p - l.2) = true
    · have e : sw l p = p - l.2 := by unfold sw; rw [if_neg h1, if_pos h2]
      rw [e]
      unfold sw
      rw [if_pos h2.2]
      omega
    · have e : sw l p = p := by unfold sw; rw [if_neg h1, if_neg h2]
      rw [e, e]
theorem ex_test {w : Nat} {l : Lv} (h : LvOk w l) (x p : Nat) : (exN x l).testBit p = x.testBit (sw l p) := by
  unfold exN
  rw [Nat.testBit_xor, Nat.testBit_xor, Nat.testBit_and, Nat.testBit_xor, Nat.testBit_div_two_pow, Nat.testBit_mul_two_pow, Nat.testBit_and, Nat.testBit_xor, Nat.testBit_div_two_pow]
  unfold sw
  by_cases h1 : l.1.testBit p = true
  · rw [if_pos h1, h1]
    have h3 : (decide (l.2 ≤ p) && ((x.testBit (p - l.2 + l.2) ^^ x.testBit (p - l.2)) && l.1.testBit (p - l.2))) = false := by
      by_cases hs : l.2 ≤ p
      · have : l.1.testBit (p - l.2) = false := by
          cases q : l.1.testBit (p - l.2) with
          | false => rfl
          | true =>
            have := h.apart q
            rw [Nat.sub_add_cancel hs, h1] at this
            cases this
        rw [this]
        simp
      · rw [decide_eq_false hs]
        rfl
    rw [h3]
    cases x.testBit p <;> cases x.testBit (p + l.2) <;> rfl
  · rw [if_neg h1]
    have h1' : l.1.testBit p = false := by simpa using h1
    rw [h1']
    by_cases h2 : l.2 ≤ p ∧ l.1.testBit (p - l.2) = true
    · rw [if_pos h2, h2.2, decide_eq_true h2.1, Nat.sub_add_cancel h2.1]
      cases x.testBit p <;> cases x.testBit (p - l.2) <;> cases x.testBit (p + l.2) <;> rfl
    · rw [if_neg h2]
      have : (decide (l.2 ≤ p) && ((x.testBit (p - l.2 + l.2) ^^ x.testBit (p - l.2)) && l.1.testBit (p - l.2))) = false := by
        by_cases hs : l.2 ≤ p
        · have : l.1.testBit (p - l.2) = false := by simpa using fun q => h2 ⟨hs, q⟩
          rw [this]
          simp
        · rw [decide_eq_false hs]
          rfl
      rw [this]
      cases x.testBit p <;> cases x.testBit (p + l.2) <;> rfl
theorem lt_of_test {n x : Nat} (h : ∀ i, n ≤ i → x.testBit i = false) : x < 2 ^ n := Nat.lt_pow_two_of_testBit x fun i hi => h i hi
theorem test_hi {n x i : Nat} (h : x < 2 ^ n) (hi : n ≤ i) : x.testBit i = false := Nat.testBit_lt_two_pow (Nat.lt_of_lt_of_le h (Nat.pow_le_pow_right (by decide) hi))
theorem ex_lt {w : Nat} {l : Lv} (h : LvOk w l) {x : Nat} (hx : x < 2 ^ w) : exN x l < 2 ^ w := lt_of_test fun i hi => by
  rw [ex_test h, sw_out h hi]
  exact test_hi hx hi
theorem ex_ex {w : Nat} {l : Lv} (h : LvOk w l) (x : Nat) : exN (exN x l) l = x := Nat.eq_of_testBit_eq fun i => by
  rw [ex_test h, ex_test h, sw_sw h]
/-- which place comes to p behind all levels -/
def act : List Lv → Nat → Nat
  | [], p => p
  | l :: ls, p => sw l (act ls p)
theorem act_app : ∀ (ls ms : List Lv) (p : Nat), act (ls ++ ms) p = act ls (act ms p)
  | [], _, _ => rfl
  | l :: ls, ms, p => by
    show sw l (act (ls ++ ms) p) = sw l (act ls (act ms p))
    rw [act_app ls ms p]
def LvsOk (w : Nat) (ls : List Lv) : Prop := ∀ l ∈ ls, LvOk w l
theorem act_lt {w : Nat} : ∀ {ls : List Lv}, LvsOk w ls → ∀ {p : Nat}, p < w → act ls p < w
  | [], _, _, hp => hp
  | l :: ls, h, p, hp => sw_lt (h l List.mem_cons_self) (act_lt (fun m hm => h m (List.mem_cons_of_mem _ hm)) hp)
theorem act_inj {w : Nat} : ∀ {ls : List Lv}, LvsOk w ls → ∀ {p q : Nat}, act ls p = act ls q → p = q
  | [], _, _, _, h => h
  | l :: ls, h, p, q, e => by
    have hl := h l List.mem_cons_self
    have e' : sw l (act ls p) = sw l (act ls q) := e
    have := congrArg (sw l) e'
    rw [sw_sw hl, sw_sw hl] at this
    exact act_inj (fun m hm => h m (List.mem_cons_of_mem _ hm)) this
theorem exs_test {w : Nat} : ∀ {ls : List Lv}, LvsOk w ls → ∀ (x p : Nat), (ls.foldl exN x).testBit p = x.testBit (act ls p)
  | [], _, _, _ => rfl
  | l :: ls, h, x, p => by
    rw [List.foldl_cons, exs_test (fun m hm => h m (List.mem_cons_of_mem _ hm)), ex_test (h l List.mem_cons_self)]
    rfl
theorem exs_lt {w : Nat} : ∀ {ls : List Lv}, LvsOk w ls → ∀ {x : Nat}, x < 2 ^ w → ls.foldl exN x < 2 ^ w
  | [], _, _, h => h
  | l :: ls, h, x, hx => exs_lt (fun m hm => h m (List.mem_cons_of_mem _ hm)) (ex_lt (h l List.mem_cons_self) hx)
def ordL (w : Nat) (ls : List Lv) : List Nat := (List.range w).map (act ls)
theorem ordL_len (w : Nat) (ls : List Lv) : (ordL w ls).length = w := by simp [ordL]
theorem ordL_at {w : Nat} (ls : List Lv) {p : Nat} (hp : p < w) : (ordL w ls).getD p 0 = act ls p := by
  rw [getD_at (by rw [ordL_len]; exact hp)]
  simp [ordL]
theorem nodup_len {w : Nat} {seen : List Nat} (h1 : seen.Nodup) (h2 : ∀ p ∈ seen, p < w) : seen.length ≤ w := by
  induction w generalizing seen with
  | zero =>
    cases seen with
    | nil => simp
    | cons x t => exact absurd (h2 x List.mem_cons_self) (by omega)
  | succ w ih =>
    by_cases hm : w ∈ seen
    · have hp := List.perm_cons_erase hm
      have := ih (seen := seen.erase w) (h1.erase w) (fun p hp => by
        have := (List.Nodup.mem_erase_iff h1).mp hp
        have := h2 p this.2
        omega)
      have hl := hp.length_eq
      rw [List.length_cons] at hl
      omega
    · have := ih h1 (fun p hp => by
        have hne : p ≠ w := fun e => hm (e ▸ hp)
        have := h2 p hp
        omega)
      omega
/-- a list of n numbers below n, none twice, is an order -/
theorem ord_of {n : Nat} {l : List Nat} (hd : l.Nodup) (hl : ∀ x ∈ l, x < n) (hn : l.length = n) : l.Perm (List.range n) := by
  induction n generalizing l with
  | zero => rw [List.eq_nil_of_length_eq_zero hn]; exact .refl _
  | succ n ih =>
    have hm : n ∈ l := by
      apply Classical.byContradiction
      intro hm
      have := nodup_len hd (w := n) (fun p hp => by
        have hne : p ≠ n := fun e => hm (e ▸ hp)
        have := hl p hp
        omega)
      omega
    have hp := List.perm_cons_erase hm
    have hl2 := hp.length_eq
    rw [List.length_cons] at hl2
    have := ih (l := l.erase n) (hd.erase n) (fun p hp => by
      have := (List.Nodup.mem_erase_iff hd).mp hp
      have := hl p this.2
      omega) (by omega)
    rw [List.range_succ]
    exact hp.trans ((this.cons n).trans (List.perm_append_comm (l₁ := [n]) (l₂ := List.range n)))
theorem bit_test (x p : Nat) : bit x p = (x.testBit p).toNat := by
  unfold bit
  rw [Nat.testBit_eq_decide_div_mod_eq]
  have : x / 2 ^ p % 2 < 2 := Nat.mod_lt _ (by decide)
  by_cases h : x / 2 ^ p % 2 = 1
  · rw [h]
    rfl
  · rw [decide_eq_false h]
    show _ = 0
    omega
theorem ordL_ord {w : Nat} {ls : List Lv} (h : LvsOk w ls) : (ordL w ls).Perm (List.range w) := by
  refine ord_of ?_ ?_ (ordL_len w ls)
  · unfold ordL
    rw [List.nodup_iff_pairwise_ne, List.pairwise_map]
    exact List.Pairwise.imp (fun hne e => hne (act_inj h e)) (List.nodup_iff_pairwise_ne.mp (List.nodup_range (n := w)))
  · intro x hx
    obtain ⟨p, hp, rfl⟩ := List.mem_map.mp hx
    exact act_lt h (List.mem_range.mp hp)
theorem laid_ordL {w : Nat} {ls : List Lv} (h : LvsOk w ls) {x : Nat} (hx : x < 2 ^ w) : laidN (ordL w ls) x = ls.foldl exN x := by
  have hl := laid_lt (ordL w ls) x
  rw [ordL_len] at hl
  refine bits_ext hl (exs_lt h hx) fun p hp => ?_
  have hp' : p < (ordL w ls).length := by rw [ordL_len]; exact hp
  rw [laid_bit x hp', ← getD_at hp', ordL_at ls hp, bit_test, bit_test, exs_test h]
end Law
namespace Law
open PySem PySem.Spec PyProof.Rows L2 Y
/-! ### pairs of places, one of each through each half -/
def pt (h p : Nat) : Nat := (p + h) % (2 * h)
theorem pt_lt {h : Nat} (h0 : 0 < h) (p : Nat) : pt h p < 2 * h := Nat.mod_lt _ (by omega)
theorem pt_eq {h p : Nat} (hp : p < 2 * h) : pt h p = if p < h then p + h else p - h := by
  unfold pt
  split
  · exact Nat.mod_eq_of_lt (by omega)
  · rw [show p + h = (p - h) + 2 * h by omega, Nat.add_mod_right, Nat.mod_eq_of_lt (by omega)]
theorem pt_pt {h p : Nat} (hp : p < 2 * h) : pt h (pt h p) = p := by
  rw [pt_eq (pt_lt (by omega) p), pt_eq hp]
  split <;> split <;> omega
theorem pt_ne {h p : Nat} (hp : p < 2 * h) : pt h p ≠ p := by
  rw [pt_eq hp]
  split <;> omega
theorem mod_h {h p : Nat} (hp : p < 2 * h) : p % h = if p < h then p else p - h := by
  split
  · exact Nat.mod_eq_of_lt (by omega)
  · rw [show p = (p - h) + h by omega, Nat.add_mod_right, Nat.mod_eq_of_lt (by omega)]
    omega
theorem pt_mod {h p : Nat} (hp : p < 2 * h) : pt h p % h = p % h := by
  rw [mod_h (pt_lt (by omega) p), mod_h hp, pt_eq hp]
  split <;> split <;> omega
theorem same_mod {h p q : Nat} (hp : p < 2 * h) (hq : q < 2 * h) (e : p % h = q % h) : p = q ∨ p = pt h q := by
  rw [mod_h hp, mod_h hq] at e
  rw [pt_eq hq]
  split at e <;> split at e <;> split <;> omega
section
variable {h : Nat} {o : List Nat}
abbrev oa (o : List Nat) (p : Nat) : Nat := o.getD p 0
/-- the next place that goes low -/
def sg (o : List Nat) (h p : Nat) : Nat := pt h (o.idxOf (pt h (oa o p)))
theorem oa_lt (ho : o.Perm (List.range (2 * h))) {p : Nat} (hp : p < 2 * h) : oa o p < 2 * h := by
  obtain ⟨q1, q2⟩ := ord_at ho hp
  unfold oa
  rw [getD_at q1]
  exact q2
theorem ix_lt (ho : o.Perm (List.range (2 * h))) {p : Nat} (hp : p < 2 * h) : o.idxOf p < 2 * h := by
  obtain ⟨hl, ha⟩ := at_idx (ord_mem ho hp)
  rw [ord_len ho] at hl
  exact hl
theorem oa_ix (ho : o.Perm (List.range (2 * h))) {p : Nat} (hp : p < 2 * h) : oa o (o.idxOf p) = p := by
  obtain ⟨hl, ha⟩ := at_idx (ord_mem ho hp)
  unfold oa
  rw [getD_at hl, ha]
theorem ix_oa (ho : o.Perm (List.range (2 * h))) {p : Nat} (hp : p < 2 * h) : o.idxOf (oa o p) = p := by
  obtain ⟨q1, q2⟩ := ord_at ho hp
  unfold oa
  rw [getD_at q1, idx_at (ord_nodup ho) q1]
theorem sg_lt (h0 : 0 < h) (p : Nat) : sg o h p < 2 * h := pt_lt h0 _
/-- a walk: V what went low so far, cur the next -/
structure Col (o : List Nat) (h : Nat) (V : List Nat) (cur : Nat) : Prop where
  lt : ∀ v ∈ V, v < 2 * h
  n1 : (V.map (· % h)).Nodup
  n2 : (V.map (oa o · % h)).Nodup
  nx : ∀ v ∈ V, sg o h v ∈ V ∨ sg o h v = cur
  bk : (∃ u ∈ V, cur = sg o h u) ∨ ∀ v ∈ V, sg o h v ∈ V
theorem Col.len {V : List Nat} {cur : Nat} (c : Col o h V cur) (h0 : 0 < h) : V.length ≤ h := by
  have := nodup_len c.n1 (w := h) (fun p hp => by
    obtain ⟨v, _, rfl⟩ := List.mem_map.mp hp
    exact Nat.mod_lt _ h0)
  simpa using this
theorem nodup_snoc {l : List Nat} {x : Nat} (hn : l.Nodup) (hx : x ∉ l) : (l ++ [x]).Nodup := by
  rw [List.nodup_append]
  refine ⟨hn, by simp, fun a ha b hb e => hx ?_⟩
  rw [List.mem_singleton] at hb
  rw [← hb, ← e]
  exact ha
theorem map_inj {α : Type} {f : α → Nat} : ∀ {l : List α}, (l.map f).Nodup → ∀ {a b : α}, a ∈ l → b ∈ l → f a = f b → a = b
  | [], _, _, _, h, _, _ => nomatch h
  | x :: l, hn, a, b, ha, hb, e => by
    rw [List.map_cons, List.nodup_cons] at hn
    rcases List.mem_cons.mp ha with h1 | h1
    · rcases List.mem_cons.mp hb with h2 | h2
      · rw [h1, h2]
      · exact absurd (List.mem_map.mpr ⟨b, h2, by rw [← e, h1]⟩) hn.1
    · rcases List.mem_cons.mp hb with h2 | h2
      · exact absurd (List.mem_map.mpr ⟨a, h1, by rw [e, h2]⟩) hn.1
      · exact map_inj hn.2 h1 h2 e
theorem Col.step {V : List Nat} {cur : Nat} (c : Col o h V cur) (h0 : 0 < h) (ho : o.Perm (List.range (2 * h))) (hc : cur < 2 * h) (hn : cur % h ∉ V.map (· % h)) : oa o cur % h ∉ V.map (oa o · % h) ∧ Col o h (V ++ [cur]) (sg o h cur) := by
  have hnew : oa o cur % h ∉ V.map (oa o · % h) := by
    intro hm
    obtain ⟨v, hv, e⟩ := List.mem_map.mp hm
    have hvl := c.lt v hv
    rcases same_mod (oa_lt ho hvl) (oa_lt ho hc) e with e | e
    · have : v = cur := by rw [← ix_oa ho hvl, e, ix_oa ho hc]
      subst this
      exact hn (List.mem_map.mpr ⟨v, hv, rfl⟩)
    · have hs : sg o h v = pt h cur := by
        unfold sg
        rw [e, pt_pt (oa_lt ho hc), ix_oa ho hc]
      rcases c.nx v hv with q | q
      · rw [hs] at q
        exact hn (List.mem_map.mpr ⟨_, q, pt_mod hc⟩)
      · rw [hs] at q
        exact pt_ne hc q
  refine ⟨hnew, ⟨fun v hv => ?_, ?_, ?_, fun v hv => ?_, .inl ⟨cur, by simp, rfl⟩⟩⟩
  · rcases List.mem_append.mp hv with hv | hv
    · exact c.lt v hv
    · rw [List.mem_singleton] at hv
      exact hv ▸ hc
  · rw [List.map_append]
    exact nodup_snoc c.n1 hn
  · rw [List.map_append]
    exact nodup_snoc c.n2 hnew
  · rcases List.mem_append.mp hv with hv | hv
    · rcases c.nx v hv with q | q
      · exact .inl (List.mem_append_left _ q)
      · rw [q]
        exact .inl (by simp)
    · rw [List.mem_singleton] at hv
      subst hv
      exact .inr rfl
theorem Col.stop {V : List Nat} {cur : Nat} (c : Col o h V cur) (h0 : 0 < h) (ho : o.Perm (List.range (2 * h))) (hc : cur < 2 * h) (hn : cur % h ∈ V.map (· % h)) : ∀ v ∈ V, sg o h v ∈ V := by
  rcases c.bk with ⟨u, hu, e⟩ | q
  · obtain ⟨v, hv, ev⟩ := List.mem_map.mp hn
    have hvl := c.lt v hv
    have hul := c.lt u hu
    rcases same_mod hvl hc ev with e2 | e2
    · subst e2
      intro x hx
      rcases c.nx x hx with q | q
      · exact q
      · rw [q]; exact hv
    · have hv2 : v = o.idxOf (pt h (oa o u)) := by
        rw [e2, e]
        unfold sg
        rw [pt_pt (ix_lt ho (pt_lt h0 _))]
      have h3 : oa o v = pt h (oa o u) := by rw [hv2, oa_ix ho (pt_lt h0 _)]
      have h4 : v = u := map_inj c.n2 hv hu (by
        show oa o v % h = oa o u % h
        rw [h3, pt_mod (oa_lt ho hul)])
      rw [h4] at h3
      exact absurd h3.symm (pt_ne (oa_lt ho hul))
  · exact q
def colW (o : List Nat) (h : Nat) : Nat → List Nat → Nat → List Nat × Nat
  | 0, V, cur => (V, cur)
  | f + 1, V, cur => if cur % h ∈ V.map (· % h) then (V, cur) else colW o h f (V ++ [cur]) (sg o h cur)
theorem colW_ok (h0 : 0 < h) (ho : o.Perm (List.range (2 * h))) : ∀ (f : Nat) (V : List Nat) (cur : Nat), h < f + V.length → cur < 2 * h → Col o h V cur →
    Col o h (colW o h f V cur).1 (colW o h f V cur).2 ∧ (∀ v ∈ (colW o h f V cur).1, sg o h v ∈ (colW o h f V cur).1) ∧ (colW o h f V cur).2 < 2 * h ∧ (∀ v ∈ V, v ∈ (colW o h f V cur).1) ∧ cur % h ∈ (colW o h f V cur).1.map (· % h)
  | 0, V, cur, hf, hc, c => by
    have := c.len h0
    omega
  | f + 1, V, cur, hf, hc, c => by
    unfold colW
    split
    · rename_i hm
      exact ⟨c, c.stop h0 ho hc hm, hc, fun _ h => h, hm⟩
    · rename_i hm
      obtain ⟨a1, a2, a3, a4, a5⟩ := colW_ok h0 ho f (V ++ [cur]) (sg o h cur) (by rw [List.length_append, List.length_singleton]; omega) (sg_lt h0 cur) (c.step h0 ho hc hm).2
      exact ⟨a1, a2, a3, fun v hv => a4 v (List.mem_append_left _ hv), List.mem_map.mpr ⟨cur, a4 cur (by simp), rfl⟩⟩
def colF (o : List Nat) (h k : Nat) : List Nat := (List.range k).foldl (fun V s => (colW o h (h + 1) V s).1) []
theorem colF_succ (o : List Nat) (h k : Nat) : colF o h (k + 1) = (colW o h (h + 1) (colF o h k) k).1 := by
  unfold colF
  rw [List.range_succ, List.foldl_append]
  rfl
def Closed (o : List Nat) (h : Nat) (V : List Nat) : Prop := (∀ v ∈ V, v < 2 * h) ∧ (V.map (· % h)).Nodup ∧ (V.map (oa o · % h)).Nodup ∧ ∀ v ∈ V, sg o h v ∈ V
theorem Closed.col {V : List Nat} (c : Closed o h V) (cur : Nat) : Col o h V cur := ⟨c.1, c.2.1, c.2.2.1, fun v hv => .inl (c.2.2.2 v hv), .inr c.2.2.2⟩
theorem colF_ok (h0 : 0 < h) (ho : o.Perm (List.range (2 * h))) : ∀ k, k ≤ h → Closed o h (colF o h k) ∧ ∀ p, p < k → p ∈ (colF o h k).map (· % h)
  | 0, _ => ⟨⟨fun v hv => by simp [colF] at hv, by simp [colF], by simp [colF], fun v hv => by simp [colF] at hv⟩, fun p hp => by omega⟩
  | k + 1, hk => by
    obtain ⟨c, hp⟩ := colF_ok h0 ho k (by omega)
    rw [colF_succ]
    obtain ⟨a1, a2, a3, a4, a5⟩ := colW_ok h0 ho (h + 1) (colF o h k) k (by omega) (by omega) (c.col k)
    refine ⟨⟨a1.lt, a1.n1, a1.n2, a2⟩, fun p hpk => ?_⟩
    by_cases e : p = k
    · subst e
      rw [Nat.mod_eq_of_lt (show p < h by omega)] at a5
      exact a5
    · obtain ⟨v, hv, e⟩ := List.mem_map.mp (hp p (by omega))
      exact List.mem_map.mpr ⟨v, a4 v hv, e⟩
/-- what goes low -/
def lowV (o : List Nat) (h : Nat) : List Nat := colF o h h
structure LowOk (o : List Nat) (h : Nat) (V : List Nat) : Prop where
  lt : ∀ v ∈ V, v < 2 * h
  p1 : (V.map (· % h)).Perm (List.range h)
  p2 : (V.map (oa o · % h)).Perm (List.range h)
theorem low_ok (h0 : 0 < h) (ho : o.Perm (List.range (2 * h))) : LowOk o h (lowV o h) := by
  obtain ⟨⟨c1, c2, c3, c4⟩, hp⟩ := colF_ok h0 ho h (Nat.le_refl _)
  have hm : ∀ x ∈ (colF o h h).map (· % h), x < h := fun x hx => by
    obtain ⟨v, _, rfl⟩ := List.mem_map.mp hx
    exact Nat.mod_lt _ h0
  have q1 : ((colF o h h).map (· % h)).Perm (List.range h) := (List.perm_ext_iff_of_nodup c2 List.nodup_range).mpr fun a => ⟨fun ha => List.mem_range.mpr (hm a ha), fun ha => hp a (List.mem_range.mp ha)⟩
  have hl : (colF o h h).length = h := by simpa using q1.length_eq
  refine ⟨c1, q1, ord_of c3 (fun x hx => ?_) (by rw [List.length_map]; exact hl)⟩
  obtain ⟨v, _, rfl⟩ := List.mem_map.mp hx
  exact Nat.mod_lt _ h0
/-- the one of V at p -/
def lowAt (V : List Nat) (f : Nat → Nat) (p : Nat) : Nat := (V.find? fun v => f v == p).getD 0
theorem lowAt_ok {V : List Nat} {f : Nat → Nat} {n : Nat} (hp : (V.map f).Perm (List.range n)) {p : Nat} (h : p < n) : lowAt V f p ∈ V ∧ f (lowAt V f p) = p := by
  obtain ⟨v, hv, e⟩ := List.mem_map.mp (hp.mem_iff.mpr (List.mem_range.mpr h))
  cases q : V.find? (fun v => f v == p) with
  | none =>
    have := List.find?_eq_none.mp q v hv
    simp [e] at this
  | some u =>
    have h1 := List.mem_of_find?_eq_some q
    have h2 := List.find?_some q
    unfold lowAt
    rw [q]
    exact ⟨h1, by simpa using h2⟩
theorem lowAt_of {V : List Nat} {f : Nat → Nat} {n : Nat} (hp : (V.map f).Perm (List.range n)) {v : Nat} (hv : v ∈ V) : lowAt V f (f v) = v := by
  have hn : f v < n := List.mem_range.mp (hp.mem_iff.mp (List.mem_map.mpr ⟨v, hv, rfl⟩))
  obtain ⟨a, b⟩ := lowAt_ok hp hn
  exact map_inj (hp.nodup_iff.mpr List.nodup_range) a hv b
end
end Law
namespace Law
open PySem PySem.Spec PyProof.Rows L2 Y
/-! ### levels for an order -/
def mkB (n : Nat) (f : Nat → Bool) : Nat := num ((List.range n).map fun p => (f p).toNat)
theorem tn_le (b : Bool) : b.toNat ≤ 1 := by cases b <;> decide
theorem mkB_lt (n : Nat) (f : Nat → Bool) : mkB n f < 2 ^ n := by
  have := num_lt ((List.range n).map fun p => (f p).toNat) (by
    intro b hb
    obtain ⟨p, _, rfl⟩ := List.mem_map.mp hb
    exact tn_le _)
  rw [List.length_map, List.length_range] at this
  exact this
theorem test_bit' (x p : Nat) : x.testBit p = decide (bit x p = 1) := Nat.testBit_eq_decide_div_mod_eq
theorem mkB_test {n : Nat} (f : Nat → Bool) {p : Nat} (hp : p < n) : (mkB n f).testBit p = f p := by
  rw [test_bit']
  unfold mkB
  rw [num_bit _ (by
    intro b hb
    obtain ⟨p, _, rfl⟩ := List.mem_map.mp hb
    exact tn_le _) p, getD_at (by simpa using hp)]
  simp
theorem half_ok {h m : Nat} (h0 : 0 < h) (hm : m < 2 ^ h) : LvOk (2 * h) (m, h) := by
  refine ⟨h0, by show h ≤ 2 * h; omega, ?_, ?_⟩
  · show m * 2 ^ h < 2 ^ (2 * h)
    rw [Nat.two_mul, Nat.pow_add]
    exact Nat.mul_lt_mul_of_pos_right hm (Nat.two_pow_pos h)
  · refine Nat.eq_of_testBit_eq fun i => ?_
    rw [Nat.testBit_and, Nat.testBit_mul_two_pow, Nat.zero_testBit]
    by_cases hi : h ≤ i
    · rw [test_hi hm hi]
      rfl
    · rw [decide_eq_false hi]
      simp
def cmb (h : Nat) (a b : Lv) : Lv := (a.1 ||| b.1 * 2 ^ h, a.2)
theorem cmb_lo {h : Nat} {a b : Lv} {p : Nat} (hp : p < h) : (cmb h a b).1.testBit p = a.1.testBit p := by
  show (a.1 ||| b.1 * 2 ^ h).testBit p = _
  rw [Nat.testBit_or, Nat.testBit_mul_two_pow, decide_eq_false (by omega)]
  simp
theorem cmb_hi {h : Nat} {a b : Lv} (ha : LvOk h a) (p : Nat) : (cmb h a b).1.testBit (p + h) = b.1.testBit p := by
  show (a.1 ||| b.1 * 2 ^ h).testBit (p + h) = _
  rw [Nat.testBit_or, Nat.testBit_mul_two_pow, decide_eq_true (by omega), test_hi ha.lt (by omega), Nat.add_sub_cancel]
  simp
theorem sw_lo {h : Nat} {a b : Lv} {p : Nat} (hp : p < h) : sw (cmb h a b) p = sw a p := by
  have s : (cmb h a b).2 = a.2 := rfl
  unfold sw
  simp only [s, cmb_lo hp]
  by_cases q : a.2 ≤ p
  · simp only [cmb_lo (show p - a.2 < h by omega)]
  · simp [q]
theorem sw_hi {h : Nat} {a b : Lv} (ha : LvOk h a) (hb : LvOk h b) (e : a.2 = b.2) {p : Nat} (hp : p < h) : sw (cmb h a b) (p + h) = sw b p + h := by
  unfold sw
  rw [cmb_hi ha, show (cmb h a b).2 = b.2 from e]
  by_cases q : b.1.testBit p = true
  · rw [if_pos q, if_pos q]
    omega
  · rw [if_neg q, if_neg q]
    by_cases s : b.2 ≤ p
    · have e2 : p + h - b.2 = (p - b.2) + h := by omega
      rw [e2, cmb_hi ha]
      by_cases t : b.1.testBit (p - b.2) = true
      · rw [if_pos ⟨by omega, t⟩, if_pos ⟨s, t⟩]
      · rw [if_neg (fun z => t z.2), if_neg (fun z => t z.2)]
    · rw [if_neg (show ¬ (b.2 ≤ p ∧ _) from fun z => s z.1)]
      by_cases t : b.2 ≤ p + h
      · have e3 : (cmb h a b).1.testBit (p + h - b.2) = false := by
          rw [cmb_lo (by omega)]
          cases z : a.1.testBit (p + h - b.2) with
          | false => rfl
          | true =>
            have := ha.top z
            omega
        rw [if_neg (fun z => by rw [e3] at z; cases z.2)]
      · rw [if_neg (fun z => t z.1)]
theorem cmb_ok {h : Nat} {a b : Lv} (ha : LvOk h a) (hb : LvOk h b) (e : a.2 = b.2) : LvOk (2 * h) (cmb h a b) := by
  have t : ∀ i, (cmb h a b).1.testBit i = true → (i < h ∧ a.1.testBit i = true) ∨ (h ≤ i ∧ b.1.testBit (i - h) = true) := fun i hi => by
    by_cases q : i < h
    · rw [cmb_lo q] at hi
      exact .inl ⟨q, hi⟩
    · rw [show i = (i - h) + h by omega, cmb_hi ha] at hi
      exact .inr ⟨by omega, hi⟩
  have s : (cmb h a b).2 = a.2 := rfl
  refine ⟨ha.s1, by have := ha.s2; rw [s]; omega, lt_of_test fun i hi => ?_, Nat.eq_of_testBit_eq fun i => ?_⟩
  · rw [Nat.testBit_mul_two_pow]
    cases z : (decide ((cmb h a b).2 ≤ i) && (cmb h a b).1.testBit (i - (cmb h a b).2)) with
    | false => rfl
    | true =>
      rw [Bool.and_eq_true] at z
      have z1 := of_decide_eq_true z.1
      rw [s] at z1
      rcases t _ z.2 with ⟨q1, q2⟩ | ⟨q1, q2⟩
      · have := ha.top q2
        rw [s] at this
        omega
      · have := hb.top q2
        rw [s] at this q1
        omega
  · rw [Nat.testBit_and, Nat.testBit_mul_two_pow, Nat.zero_testBit]
    cases z0 : (cmb h a b).1.testBit i with
    | false => rfl
    | true =>
    cases z : (decide ((cmb h a b).2 ≤ i) && (cmb h a b).1.testBit (i - (cmb h a b).2)) with
    | false => rfl
    | true =>
      exfalso
      rw [Bool.and_eq_true] at z
      have z1 := of_decide_eq_true z.1
      rw [s] at z1
      rcases t _ z.2 with ⟨q1, q2⟩ | ⟨q1, q2⟩
      · have top := ha.top q2
        have ap := ha.apart q2
        rw [s] at top ap
        rw [Nat.sub_add_cancel z1] at ap top
        rw [cmb_lo top, ap] at z0
        cases z0
      · have ap := hb.apart q2
        rw [s] at ap q1
        rw [show i - a.2 - h + b.2 = i - h by omega] at ap
        rw [show i = (i - h) + h by omega, cmb_hi ha, ap] at z0
        cases z0
theorem zip_ok {h : Nat} : ∀ {A B : List Lv}, LvsOk h A → LvsOk h B → A.map (·.2) = B.map (·.2) → LvsOk (2 * h) (List.zipWith (cmb h) A B) ∧ (List.zipWith (cmb h) A B).map (·.2) = A.map (·.2) ∧ ∀ p, p < h → act (List.zipWith (cmb h) A B) p = act A p ∧ act (List.zipWith (cmb h) A B) (p + h) = act B p + h
  | [], [], _, _, _ => ⟨fun _ h => (nomatch h), rfl, fun _ _ => ⟨rfl, rfl⟩⟩
  | [], _ :: _, _, _, e => by cases e
  | _ :: _, [], _, _, e => by cases e
  | a :: A, b :: B, hA, hB, e => by
    rw [List.map_cons, List.map_cons, List.cons.injEq] at e
    have ha := hA a List.mem_cons_self
    have hb := hB b List.mem_cons_self
    have hA' : LvsOk h A := fun l hl => hA l (List.mem_cons_of_mem _ hl)
    have hB' : LvsOk h B := fun l hl => hB l (List.mem_cons_of_mem _ hl)
    obtain ⟨i1, i2, i3⟩ := zip_ok hA' hB' e.2
    refine ⟨fun l hl => ?_, ?_, fun p hp => ?_⟩
    · rw [List.zipWith_cons_cons] at hl
      rcases List.mem_cons.mp hl with rfl | hl
      · exact cmb_ok ha hb e.1
      · exact i1 l hl
    · rw [List.zipWith_cons_cons, List.map_cons, List.map_cons, i2]
      rfl
    · rw [List.zipWith_cons_cons]
      obtain ⟨j1, j2⟩ := i3 p hp
      constructor
      · show sw (cmb h a b) (act _ p) = sw a (act A p)
        rw [j1, sw_lo (act_lt hA' hp)]
      · show sw (cmb h a b) (act _ (p + h)) = sw b (act B p) + h
        rw [j2, sw_hi ha hb e.1 (act_lt hB' hp)]
section
variable {h : Nat} {o : List Nat}
abbrev vN (o : List Nat) (h p : Nat) : Nat := lowAt (lowV o h) (· % h) p
abbrev uN (o : List Nat) (h q : Nat) : Nat := lowAt (lowV o h) (oa o · % h) q
def lastB (o : List Nat) (h p : Nat) : Bool := decide (h ≤ vN o h p)
def firstB (o : List Nat) (h q : Nat) : Bool := decide (h ≤ oa o (uN o h q))
def loN (o : List Nat) (h : Nat) : List Nat := (List.range h).map fun p => oa o (vN o h p) % h
def upN (o : List Nat) (h : Nat) : List Nat := (List.range h).map fun p => oa o (pt h (vN o h p)) % h
theorem loN_len : (loN o h).length = h := by simp [loN]
theorem upN_len : (upN o h).length = h := by simp [upN]
theorem loN_at {p : Nat} (hp : p < h) : oa (loN o h) p = oa o (vN o h p) % h := by
  unfold oa
  rw [getD_at (by rw [loN_len]; exact hp)]
  simp [loN]
theorem upN_at {p : Nat} (hp : p < h) : oa (upN o h) p = oa o (pt h (vN o h p)) % h := by
  unfold oa
  rw [getD_at (by rw [upN_len]; exact hp)]
  simp [upN]
theorem v_ok (h0 : 0 < h) (ho : o.Perm (List.range (2 * h))) {p : Nat} (hp : p < h) : vN o h p ∈ lowV o h ∧ vN o h p % h = p ∧ vN o h p < 2 * h := by
  have c := low_ok h0 ho
  obtain ⟨a, b⟩ := lowAt_ok c.p1 hp
  exact ⟨a, b, c.lt _ a⟩
theorem u_ok (h0 : 0 < h) (ho : o.Perm (List.range (2 * h))) {p : Nat} (hp : p < h) : uN o h p ∈ lowV o h ∧ oa o (uN o h p) % h = p ∧ uN o h p < 2 * h := by
  have c := low_ok h0 ho
  obtain ⟨a, b⟩ := lowAt_ok c.p2 hp
  exact ⟨a, b, c.lt _ a⟩
/-- what is not low has its partner low -/
theorem pt_out (h0 : 0 < h) (ho : o.Perm (List.range (2 * h))) {p : Nat} (hp : p ∈ lowV o h) : pt h p ∉ lowV o h := fun hn => by
  have c := low_ok h0 ho
  have hl := c.lt p hp
  exact pt_ne hl (map_inj (c.p1.nodup_iff.mpr List.nodup_range) hn hp (pt_mod hl))
theorem oa_inj (ho : o.Perm (List.range (2 * h))) {p q : Nat} (hp : p < 2 * h) (hq : q < 2 * h) (e : oa o p = oa o q) : p = q := by
  rw [← ix_oa ho hp, e, ix_oa ho hq]
/-- two that are not low come from two pairs -/
theorem out_inj (h0 : 0 < h) (ho : o.Perm (List.range (2 * h))) {a b : Nat} (ha : a < 2 * h) (hb : b < 2 * h) (na : a ∉ lowV o h) (nb : b ∉ lowV o h) (e : oa o a % h = oa o b % h) : a = b := by
  rcases same_mod (oa_lt ho ha) (oa_lt ho hb) e with q | q
  · exact oa_inj ho ha hb q
  · exfalso
    obtain ⟨u1, u2, u3⟩ := u_ok h0 ho (Nat.mod_lt (oa o a) h0)
    rcases same_mod (oa_lt ho u3) (oa_lt ho ha) u2 with z | z
    · exact na (oa_inj ho u3 ha z ▸ u1)
    · have z' := z.trans ((congrArg (pt h) q).trans (pt_pt (oa_lt ho hb)))
      exact nb (oa_inj ho u3 hb z' ▸ u1)
theorem map_ord {n : Nat} {f : Nat → Nat} (hi : ∀ p q, p < n → q < n → f p = f q → p = q) (hl : ∀ p, p < n → f p < n) : ((List.range n).map f).Perm (List.range n) := by
  refine ord_of ?_ (fun x hx => ?_) (by simp)
  · rw [List.nodup_iff_pairwise_ne, List.pairwise_map]
    refine List.Pairwise.imp_of_mem (fun {a b} ha hb hne e => hne (hi a b (List.mem_range.mp ha) (List.mem_range.mp hb) e)) (List.nodup_iff_pairwise_ne.mp (List.nodup_range (n := n)))
  · obtain ⟨p, hp, rfl⟩ := List.mem_map.mp hx
    exact hl p (List.mem_range.mp hp)
theorem lo_ord (h0 : 0 < h) (ho : o.Perm (List.range (2 * h))) : (loN o h).Perm (List.range h) := by
  have c := low_ok h0 ho
  refine map_ord (fun p q hp hq e => ?_) fun p _ => Nat.mod_lt _ h0
  obtain ⟨a1, a2, _⟩ := v_ok h0 ho hp
  obtain ⟨b1, b2, _⟩ := v_ok h0 ho hq
  have := map_inj (c.p2.nodup_iff.mpr List.nodup_range) a1 b1 e
  rw [← a2, this, b2]
theorem up_ord (h0 : 0 < h) (ho : o.Perm (List.range (2 * h))) : (upN o h).Perm (List.range h) := by
  refine map_ord (fun p q hp hq e => ?_) fun p _ => Nat.mod_lt _ h0
  obtain ⟨a1, a2, a3⟩ := v_ok h0 ho hp
  obtain ⟨b1, b2, b3⟩ := v_ok h0 ho hq
  have := out_inj h0 ho (pt_lt h0 _) (pt_lt h0 _) (pt_out h0 ho a1) (pt_out h0 ho b1) e
  have := congrArg (pt h) this
  rw [pt_pt a3, pt_pt b3] at this
  rw [← a2, this, b2]
/-- through the middle -/
theorem thru (h0 : 0 < h) (ho : o.Perm (List.range (2 * h))) {ls : List Lv} (hl : ∀ p, p < h → act ls p = oa (loN o h) p ∧ act ls (p + h) = oa (upN o h) p + h) {p : Nat} (hp : p < 2 * h) :
    act ((mkB h (firstB o h), h) :: ls ++ [(mkB h (lastB o h), h)]) p = oa o p := by
  have c := low_ok h0 ho
  have hn1 := c.p1.nodup_iff.mpr List.nodup_range
  have hn2 := c.p2.nodup_iff.mpr List.nodup_range
  have hr : p % h < h := Nat.mod_lt _ h0
  obtain ⟨v1, v2, v3⟩ := v_ok h0 ho hr
  have hq : oa o p % h < h := Nat.mod_lt _ h0
  have hop := oa_lt ho hp
  have mid : act ls (sw (mkB h (lastB o h), h) p) = if p ∈ lowV o h then oa o p % h else oa o p % h + h := by
    have tl := mkB_test (lastB o h) hr
    have thi : ∀ i, h ≤ i → (mkB h (lastB o h)).testBit i = false := fun i hi => test_hi (mkB_lt h _) hi
    rcases same_mod v3 hp v2 with e | e
    · have hm : p ∈ lowV o h := e ▸ v1
      rw [if_pos hm]
      have es : sw (mkB h (lastB o h), h) p = p % h := by
        unfold sw
        by_cases hh : p < h
        · have ep : p % h = p := Nat.mod_eq_of_lt hh
          rw [ep] at tl e ⊢
          have : lastB o h p = false := decide_eq_false (by rw [e]; omega)
          rw [tl, this, if_neg (by decide), if_neg (fun z => by have : h ≤ p := z.1; omega)]
        · have ep : p % h = p - h := by rw [mod_h hp, if_neg hh]
          rw [ep] at tl e ⊢
          have : lastB o h (p - h) = true := decide_eq_true (by rw [e]; omega)
          rw [if_neg (by rw [thi p (by omega)]; decide), if_pos ⟨by show h ≤ p; omega, by show (mkB h (lastB o h)).testBit (p - h) = true; rw [tl, this]⟩]
      rw [es, (hl _ hr).1, loN_at hr, e]
    · have hm : p ∉ lowV o h := fun hm => by
        have := pt_out h0 ho hm
        rw [← e] at this
        exact this v1
      rw [if_neg hm]
      have es : sw (mkB h (lastB o h), h) p = p % h + h := by
        unfold sw
        by_cases hh : p < h
        · have ep : p % h = p := Nat.mod_eq_of_lt hh
          rw [ep] at tl e ⊢
          have : lastB o h p = true := decide_eq_true (by rw [e, pt_eq hp, if_pos hh]; omega)
          rw [tl, this, if_pos rfl]
        · have ep : p % h = p - h := by rw [mod_h hp, if_neg hh]
          rw [ep] at tl e ⊢
          have : lastB o h (p - h) = false := decide_eq_false (by rw [e, pt_eq hp, if_neg hh]; omega)
          rw [if_neg (by rw [thi p (by omega)]; decide), if_neg (fun z => by
            have z2 : (mkB h (lastB o h)).testBit (p - h) = true := z.2
            rw [tl, this] at z2
            cases z2)]
          omega
      rw [es, (hl _ hr).2, upN_at hr, e, pt_pt hp]
  have e1 : act ((mkB h (firstB o h), h) :: ls ++ [(mkB h (lastB o h), h)]) p = sw (mkB h (firstB o h), h) (act ls (sw (mkB h (lastB o h), h) p)) := by
    rw [List.cons_append]
    show sw _ (act (ls ++ _) p) = _
    rw [act_app]
    rfl
  rw [e1, mid]
  obtain ⟨u1, u2, u3⟩ := u_ok h0 ho hq
  have tf := mkB_test (firstB o h) hq
  have thi : ∀ i, h ≤ i → (mkB h (firstB o h)).testBit i = false := fun i hi => test_hi (mkB_lt h _) hi
  by_cases hm : p ∈ lowV o h
  · rw [if_pos hm]
    have e : uN o h (oa o p % h) = p := lowAt_of c.p2 hm
    unfold sw
    by_cases hh : h ≤ oa o p
    · have ep : oa o p % h = oa o p - h := by rw [mod_h hop, if_neg (by omega)]
      have : firstB o h (oa o p % h) = true := decide_eq_true (by rw [e]; exact hh)
      rw [if_pos (by show (mkB h (firstB o h)).testBit _ = true; rw [tf, this]), ep]
      show oa o p - h + h = _
      omega
    · have ep : oa o p % h = oa o p := Nat.mod_eq_of_lt (by omega)
      have : firstB o h (oa o p % h) = false := decide_eq_false (by rw [e]; exact hh)
      rw [if_neg (by show ¬ (mkB h (firstB o h)).testBit _ = true; rw [tf, this]; decide), if_neg (fun z => by have : h ≤ oa o p % h := z.1; omega), ep]
  · rw [if_neg hm]
    have e : oa o (uN o h (oa o p % h)) = pt h (oa o p) := by
      rcases same_mod (oa_lt ho u3) hop u2 with z | z
      · exact absurd (oa_inj ho u3 hp z ▸ u1) hm
      · exact z
    unfold sw
    rw [if_neg (by show ¬ (mkB h (firstB o h)).testBit _ = true; rw [thi _ (by omega)]; decide)]
    have cs : (mkB h (firstB o h), h).2 = h := rfl
    rw [cs, Nat.add_sub_cancel]
    by_cases hh : h ≤ oa o p
    · have ep : oa o p % h = oa o p - h := by rw [mod_h hop, if_neg (by omega)]
      have : firstB o h (oa o p % h) = false := decide_eq_false (by rw [e, pt_eq hop, if_neg (by omega)]; omega)
      rw [if_neg (fun z => by
        have z2 : (mkB h (firstB o h)).testBit _ = true := z.2
        rw [tf, this] at z2
        cases z2), ep]
      omega
    · have ep : oa o p % h = oa o p := Nat.mod_eq_of_lt (by omega)
      have : firstB o h (oa o p % h) = true := decide_eq_true (by rw [e, pt_eq hop, if_pos (by omega)]; omega)
      rw [if_pos ⟨by omega, by show (mkB h (firstB o h)).testBit _ = true; rw [tf, this]⟩, ep]
end
def rN : Nat → List Nat → Nat → List Lv
  | 0, _, _ => []
  | f + 1, o, w => if w = 1 then [] else if w = 2 then [(if oa o 0 = 1 then 1 else 0, 1)] else
    (mkB (w / 2) (firstB o (w / 2)), w / 2) :: List.zipWith (cmb (w / 2)) (rN f (loN o (w / 2)) (w / 2)) (rN f (upN o (w / 2)) (w / 2)) ++ [(mkB (w / 2) (lastB o (w / 2)), w / 2)]
def stp : Nat → List Nat
  | 0 => []
  | 1 => [1]
  | k + 2 => 2 ^ (k + 1) :: stp (k + 1) ++ [2 ^ (k + 1)]
theorem stp_len : ∀ k, (stp (k + 1)).length = 2 * k + 1
  | 0 => rfl
  | k + 1 => by
    show (2 ^ (k + 1) :: stp (k + 1) ++ [2 ^ (k + 1)]).length = _
    rw [List.length_append, List.length_cons, stp_len k]
    simp
    omega
theorem rN_ok : ∀ (f k : Nat) (o : List Nat), k ≤ f → 1 ≤ f → o.Perm (List.range (2 ^ k)) → LvsOk (2 ^ k) (rN f o (2 ^ k)) ∧ (rN f o (2 ^ k)).map (·.2) = stp k ∧ ∀ p, p < 2 ^ k → act (rN f o (2 ^ k)) p = oa o p
  | 0, _, _, _, h, _ => by omega
  | f + 1, 0, o, _, _, ho => by
    have e : rN (f + 1) o (2 ^ 0) = [] := by unfold rN; rfl
    rw [e]
    refine ⟨fun _ h => (nomatch h), rfl, fun p hp => ?_⟩
    have : p = 0 := by omega
    subst this
    obtain ⟨q1, q2⟩ := ord_at ho (k := 0) (by decide)
    show 0 = oa o 0
    unfold oa
    rw [getD_at q1]
    omega
  | f + 1, 1, o, _, _, ho => by
    have e : rN (f + 1) o (2 ^ 1) = [(if oa o 0 = 1 then 1 else 0, 1)] := by unfold rN; rfl
    rw [e]
    have h0 : oa o 0 < 2 := oa_lt (h := 1) ho (by decide)
    have h1 : oa o 1 < 2 := oa_lt (h := 1) ho (by decide)
    have hne : oa o 0 ≠ oa o 1 := fun q => absurd (oa_inj (h := 1) ho (by decide) (by decide) q) (by decide)
    by_cases q : oa o 0 = 1
    · rw [if_pos q]
      refine ⟨fun l hl => ?_, rfl, fun p hp => ?_⟩
      · rw [List.mem_singleton] at hl
        subst hl
        exact ⟨by decide, by decide, by decide, by decide⟩
      · have : p = 0 ∨ p = 1 := by have : p < 2 := hp; omega
        rcases this with rfl | rfl
        · rw [q]; decide
        · rw [show oa o 1 = 0 by omega]; decide
    · rw [if_neg q]
      refine ⟨fun l hl => ?_, rfl, fun p hp => ?_⟩
      · rw [List.mem_singleton] at hl
        subst hl
        exact ⟨by decide, by decide, by decide, by decide⟩
      · have : p = 0 ∨ p = 1 := by have : p < 2 := hp; omega
        rcases this with rfl | rfl
        · rw [show oa o 0 = 0 by omega]; decide
        · rw [show oa o 1 = 1 by omega]; decide
  | f + 1, k + 2, o, hk, _, ho => by
    have hw : 2 ^ (k + 2) = 2 * 2 ^ (k + 1) := by rw [Nat.pow_succ 2 (k + 1), Nat.mul_comm]
    have hpos : 2 ≤ 2 ^ (k + 1) := by rw [Nat.pow_succ]; have := Nat.two_pow_pos k; omega
    have hd : 2 ^ (k + 2) / 2 = 2 ^ (k + 1) := by omega
    have e : rN (f + 1) o (2 ^ (k + 2)) = (mkB (2 ^ (k + 1)) (firstB o (2 ^ (k + 1))), 2 ^ (k + 1)) :: List.zipWith (cmb (2 ^ (k + 1))) (rN f (loN o (2 ^ (k + 1))) (2 ^ (k + 1))) (rN f (upN o (2 ^ (k + 1))) (2 ^ (k + 1))) ++ [(mkB (2 ^ (k + 1)) (lastB o (2 ^ (k + 1))), 2 ^ (k + 1))] := by
      conv => lhs; unfold rN
      rw [if_neg (by omega), if_neg (by omega), hd]
    rw [e]
    rw [hw] at ho
    have hh0 : 0 < 2 ^ (k + 1) := by omega
    obtain ⟨a1, a2, a3⟩ := rN_ok f (k + 1) (loN o (2 ^ (k + 1))) (by omega) (by omega) (lo_ord hh0 ho)
    obtain ⟨b1, b2, b3⟩ := rN_ok f (k + 1) (upN o (2 ^ (k + 1))) (by omega) (by omega) (up_ord hh0 ho)
    obtain ⟨z1, z2, z3⟩ := zip_ok a1 b1 (a2.trans b2.symm)
    refine ⟨fun l hl => ?_, ?_, fun p hp => ?_⟩
    · rw [hw]
      rw [List.cons_append] at hl
      rcases List.mem_cons.mp hl with rfl | hl
      · exact half_ok hh0 (mkB_lt _ _)
      · rcases List.mem_append.mp hl with hl | hl
        · exact z1 l hl
        · rw [List.mem_singleton] at hl
          subst hl
          exact half_ok hh0 (mkB_lt _ _)
    · rw [List.map_append, List.map_cons, z2, a2]
      rfl
    · rw [hw] at hp
      exact thru hh0 ho (fun p hp => by
        obtain ⟨c1, c2⟩ := z3 p hp
        rw [c1, c2, a3 p hp, b3 p hp]
        exact ⟨rfl, rfl⟩) hp
end Law
namespace Law
open PySem PySem.Spec PyProof.Rows L2 Y
/-! ### exchanges told -/
theorem xor_nn (x y : Nat) : Builtin.bitXor (x : Int) (y : Int) = ((x ^^^ y : Nat) : Int) := by
  rw [Bits.bitXor_pp (by omega) (by omega)]
  simp
theorem shr_nn (y k : Nat) : (y : Int) / 2 ^ k = ((y / 2 ^ k : Nat) : Int) := by simp
theorem shl_nn (y k : Nat) : (y : Int) * 2 ^ k = ((y * 2 ^ k : Nat) : Int) := by simp
theorem sm_nn {y : Nat} (h : y < 2 ^ 128) : sm (y : Int) = true := sm_of (by omega) (by omega)
theorem le_mask {w m : Nat} (h : m < 2 ^ w) : (m : Int) ≤ 2 ^ w - 1 := by
  have : (m : Int) < ((2 ^ w : Nat) : Int) := by exact_mod_cast h
  rw [← pcast] at this
  omega
theorem lv_shl {w : Nat} (h2 : w ≤ 64) {l : Lv} (hl : LvOk w l) : shlC (l.1 : Int) (l.2 : Int) = true := by
  have := hl.s2
  have := wbn h2
  have := hl.lt
  exact shlC_of (by omega) (by omega) (sm_of (by omega) (by omega))
theorem lv_top {w : Nat} {l : Lv} (hl : LvOk w l) : l.1 * 2 ^ l.2 / 2 ^ w = 0 := Nat.div_eq_of_lt hl.hi
theorem e_check_swap {w : Nat} (h1 : 1 ≤ w) (h2 : w ≤ 64) {l : Lv} (hl : LvOk w l) (g : G) : F_check_swap [.int w, .int l.1, .int l.2] g = .ok (.d .non) g := by
  have w1 := e_within_t (g := g) (show (1 : Int) ≤ l.2 by have := hl.s1; omega) (show (l.2 : Int) ≤ w by have := hl.s2; omega)
  have w2 := e_within_t (g := g) (show (0 : Int) ≤ l.1 by omega) (le_mask hl.lt)
  have c1 := shl1 (n := w) (by omega)
  have c2 := lv_shl h2 hl
  have ap := hl.ap
  have tp := lv_top hl
  obtain ⟨m, s⟩ := l
  simp only at *
  have q1 := shl_nn m s
  generalize hA : m * 2 ^ s = A at *
  have q2 := shr_nn A w
  have q3 := and_nn m A
  rw [tp] at q2
  rw [ap] at q3
  simp [F_check_swap, m_check_swap, w1, w2, c1, c2, q1, q2, q3]
theorem e_swapped {w : Nat} (h2 : w ≤ 64) {l : Lv} (hl : LvOk w l) {x : Nat} (hx : x < 2 ^ w) (g : G) : F_swapped [.int x, .int l.1, .int l.2] g = .ok (.d (.int (exN x l : Nat))) g := by
  have hb := wbn h2
  have hs := hl.s2
  have q1 := shr_nn x l.2
  have hc : (((x / 2 ^ l.2) ^^^ x) &&& l.1) ≤ l.1 := Nat.and_le_right
  have hm := hl.lt
  unfold exN
  obtain ⟨m, s⟩ := l
  simp only at *
  generalize hA : x / 2 ^ s = A at *
  have q2 := xor_nn A x
  generalize hB : A ^^^ x = B at *
  have q3 := and_nn B m
  generalize hC : B &&& m = C at *
  have q4 := xor_nn x C
  have q5 := shl_nn C s
  have c2 : shlC (C : Int) (s : Int) = true := shlC_of (by omega) (by omega) (sm_of (by omega) (by omega))
  generalize hD : x ^^^ C = D2 at *
  generalize hE : C * 2 ^ s = E at *
  have q6 := xor_nn D2 E
  simp [F_swapped, m_swapped, q1, q2, q3, q4, q5, q6, c2]
theorem e_exchanged {w : Nat} (h1 : 1 ≤ w) (h2 : w ≤ 64) {l : Lv} (hl : LvOk w l) {x : Nat} (hx : x < 2 ^ w) (g : G) : F_exchanged [.int w, .int x, .int l.1, .int l.2] g = .ok (.d (.int (exN x l : Nat))) g := by
  simp [F_exchanged, m_exchanged, e_check_word h1 h2 hx, e_check_swap h1 h2 hl, e_swapped h2 hl hx]
/-! ### levels told -/
def lvD (l : Lv) : D := .tup [.int (l.1 : Nat), .int (l.2 : Nat)]
def lvsD (ls : List Lv) : List D := ls.map lvD
theorem lvsD_len (ls : List Lv) : (lvsD ls).length = ls.length := by simp [lvsD]
theorem are_body {w : Nat} (h1 : 1 ≤ w) (h2 : w ≤ 64) {l : Lv} (hl : LvOk w l) (q q4 : Option SV) (g : G) : b1_are_levels ⟨[some (.d (.int w)), q, some (.d (.int l.1)), some (.d (.int l.2)), q4], g⟩ = .nx ⟨[some (.d (.int w)), q, some (.d (.int l.1)), some (.d (.int l.2)), q4], g⟩ := by
  have w1 := e_within_t (g := g) (show (1 : Int) ≤ l.2 by have := hl.s1; omega) (show (l.2 : Int) ≤ w by have := hl.s2; omega)
  have w2 := e_within_t (g := g) (show (0 : Int) ≤ l.1 by omega) (le_mask hl.lt)
  have c1 := shl1 (n := w) (by omega)
  have c2 := lv_shl h2 hl
  have ap := hl.ap
  have tp := lv_top hl
  obtain ⟨m, s⟩ := l
  simp only at *
  have q1 := shl_nn m s
  generalize hA : m * 2 ^ s = A at *
  have q2 := shr_nn A w
  have q3 := and_nn m A
  rw [tp] at q2
  rw [ap] at q3
  simp [b1_are_levels, w1, w2, c1, c2, q1, q2, q3]
theorem are_loop {w : Nat} (h1 : 1 ≤ w) (h2 : w ≤ 64) (q : Option SV) (g : G) : ∀ (ls : List Lv), LvsOk w ls → mForL (gT 2 (gsC (gN 2) (gsC (gN 3) gsN))) b1_are_levels [2, 3] (lvsD ls) ⟨[some (.d (.int w)), q, none, none, none], g⟩ = .nx ⟨[some (.d (.int w)), q, none, none, none], g⟩
  | [], _ => rfl
  | l :: ls, h => by
    have ih := are_loop h1 h2 q g ls fun y hy => h y (List.mem_cons_of_mem _ hy)
    have e := are_body h1 h2 (h l List.mem_cons_self) q none g
    show mForL _ _ _ (lvD l :: lvsD ls) _ = _
    have eg : gT 2 (gsC (gN 2) (gsC (gN 3) gsN)) (lvD l) ⟨[some (.d (.int w)), q, none, none, none], g⟩ = some ⟨[some (.d (.int w)), q, some (.d (.int l.1)), some (.d (.int l.2)), none], g⟩ := rfl
    unfold mForL
    rw [eg]
    simp only [e, wipeS, List.set_cons_succ, List.set_cons_zero]
    exact ih
theorem e_are_levels {w : Nat} (h1 : 1 ≤ w) (h2 : w ≤ 64) {ls : List Lv} (h : LvsOk w ls) (hl : ls.length ≤ 100) (g : G) : F_are_levels [.int w, .tup (lvsD ls)] g = .ok (.d (.bl true)) g := by
  have e := lc_mapK (g := gN 4) (me := e2_are_levels) (own := [4]) lvD (fun _ => D.bl true) ⟨[some (.d (.int w)), some (.d (.tup (lvsD ls))), none, none, none], g⟩ ls (by
    intro p hp
    refine ⟨⟨[some (.d (.int w)), some (.d (.tup (lvsD ls))), none, none, some (.d (lvD p))], g⟩, ⟨[some (.d (.int w)), some (.d (.tup (lvsD ls))), none, none, some (.d (lvD p))], g⟩, rfl, ?_, rfl⟩
    have ht : F_is_tuple_of [lvD p, .int 2] g = .ok (.d (.bl true)) g := by simp [F_is_tuple_of, m_is_tuple_of, lvD]
    have hv : ∀ st : MS, val (.d (lvD p)) st = some (lvD p) := fun _ => rfl
    simp [e2_are_levels, ht]) (by unfold lim; omega)
  have e1 : List.map (fun _ : Lv => D.bl true) ls = List.replicate ls.length (D.bl true) := List.map_const'
  rw [e1] at e
  have el := are_loop h1 h2 (some (.d (.tup (lvsD ls)))) g ls h
  have e' : lcL (gN 4) mYes e2_are_levels [4] (lvsD ls) [] ⟨[some (.d (.int w)), some (.d (.tup (lvsD ls))), none, none, none], g⟩ = _ := e
  have hlen := lvsD_len ls
  generalize lvsD ls = L at *
  have hz : ¬ (100 : Int) < (L.length : Int) := by omega
  have hz2 : ¬ 100 < L.length := by omega
  simp [F_are_levels, m_are_levels, e_check_width h1 h2, e', el, bls_true, hz, hz2]
/-! ### the order of levels -/
def swk (l : Lv) (k p : Nat) : Nat := if l.1.testBit p = true ∧ p < k then p + l.2 else if (l.2 ≤ p ∧ l.1.testBit (p - l.2) = true) ∧ p - l.2 < k then p - l.2 else p
def rowK (w : Nat) (row : List Nat) (l : Lv) (k : Nat) : List Nat := (List.range w).map fun p => oa row (swk l k p)
theorem rowK_len (w : Nat) (row : List Nat) (l : Lv) (k : Nat) : (rowK w row l k).length = w := by simp [rowK]
theorem rowK_at {w : Nat} (row : List Nat) (l : Lv) (k : Nat) {p : Nat} (hp : p < w) : oa (rowK w row l k) p = oa row (swk l k p) := by
  unfold oa
  rw [getD_at (by rw [rowK_len]; exact hp)]
  simp [rowK]
theorem rowK_zero {w : Nat} {row : List Nat} (hr : row.length = w) (l : Lv) : rowK w row l 0 = row := by
  apply List.ext_getElem
  · rw [rowK_len, hr]
  · intro i q1 q2
    have e : swk l 0 i = i := by unfold swk; simp
    have := rowK_at row l 0 (w := w) (by rwa [rowK_len] at q1)
    unfold oa at this
    rw [getD_at q1, e, getD_at q2] at this
    exact this
theorem rowK_all {w : Nat} {row : List Nat} {l : Lv} (hl : LvOk w l) : rowK w row l w = (List.range w).map fun p => oa row (sw l p) := by
  unfold rowK
  refine List.map_congr_left fun p hp => ?_
  have hp := List.mem_range.mp hp
  have : swk l w p = sw l p := by
    unfold swk sw
    by_cases a : l.1.testBit p = true
    · rw [if_pos ⟨a, hp⟩, if_pos a]
    · rw [if_neg (fun z => a z.1), if_neg a]
      by_cases b : l.2 ≤ p ∧ l.1.testBit (p - l.2) = true
      · rw [if_pos ⟨b, by omega⟩, if_pos b]
      · rw [if_neg (fun z => b z.1), if_neg b]
  rw [this]
theorem rowK_no {w : Nat} {row : List Nat} {l : Lv} {k : Nat} (hk : l.1.testBit k = false) : rowK w row l (k + 1) = rowK w row l k := by
  unfold rowK
  refine List.map_congr_left fun p hp => ?_
  have : swk l (k + 1) p = swk l k p := by
    unfold swk
    have a : (l.1.testBit p = true ∧ p < k + 1) ↔ (l.1.testBit p = true ∧ p < k) := by
      constructor
      · rintro ⟨x, y⟩
        refine ⟨x, ?_⟩
        have : p ≠ k := fun e => by rw [e, hk] at x; cases x
        omega
      · rintro ⟨x, y⟩
        exact ⟨x, by omega⟩
    have b : ((l.2 ≤ p ∧ l.1.testBit (p - l.2) = true) ∧ p - l.2 < k + 1) ↔ ((l.2 ≤ p ∧ l.1.testBit (p - l.2) = true) ∧ p - l.2 < k) := by
      constructor
      · rintro ⟨x, y⟩
        refine ⟨x, ?_⟩
        have : p - l.2 ≠ k := fun e => by rw [e, hk] at x; cases x.2
        omega
      · rintro ⟨x, y⟩
        exact ⟨x, by omega⟩
    simp only [a, b]
  rw [this]
theorem rowK_yes {w : Nat} {row : List Nat} {l : Lv} (hl : LvOk w l) {k : Nat} (hk : l.1.testBit k = true) : ((rowK w row l k).set k (oa (rowK w row l k) (k + l.2))).set (k + l.2) (oa (rowK w row l k) k) = rowK w row l (k + 1) := by
  have ht := hl.top hk
  have hs := hl.s1
  have hap := hl.apart hk
  have hkw : k < w := by omega
  have n1 : swk l k k = k := by
    unfold swk
    rw [if_neg (by omega), if_neg]
    rintro ⟨⟨a, b⟩, _⟩
    have := hl.apart b
    rw [Nat.sub_add_cancel a, hk] at this
    cases this
  have n2 : swk l k (k + l.2) = k + l.2 := by
    unfold swk
    rw [if_neg (by rw [hap]; simp), if_neg (by omega)]
  rw [rowK_at row l k ht, rowK_at row l k hkw, n1, n2]
  apply List.ext_getElem
  · simp [rowK]
  · intro i q1 q2
    have hi : i < w := by rwa [rowK_len] at q2
    have e2 := rowK_at row l (k + 1) hi
    have e1 := rowK_at row l k hi
    have q3 : i < (rowK w row l k).length := by rw [rowK_len]; exact hi
    unfold oa at e1 e2
    rw [getD_at q2] at e2
    rw [getD_at q3] at e1
    rw [e2, List.getElem_set, List.getElem_set]
    by_cases c1 : k + l.2 = i
    · rw [if_pos c1]
      subst c1
      have : swk l (k + 1) (k + l.2) = k := by
        unfold swk
        rw [if_neg (by rw [hap]; simp), if_pos ⟨⟨by omega, by rw [Nat.add_sub_cancel]; exact hk⟩, by omega⟩]
        omega
      rw [this]
    · rw [if_neg c1]
      by_cases c2 : k = i
      · rw [if_pos c2]
        subst c2
        have : swk l (k + 1) k = k + l.2 := by
          unfold swk
          rw [if_pos ⟨hk, by omega⟩]
        rw [this]
      · rw [if_neg c2, e1]
        have : swk l (k + 1) i = swk l k i := by
          unfold swk
          have a : (l.1.testBit i = true ∧ i < k + 1) ↔ (l.1.testBit i = true ∧ i < k) := by
            constructor
            · rintro ⟨x, y⟩
              exact ⟨x, by omega⟩
            · rintro ⟨x, y⟩
              exact ⟨x, by omega⟩
          have b : ((l.2 ≤ i ∧ l.1.testBit (i - l.2) = true) ∧ i - l.2 < k + 1) ↔ ((l.2 ≤ i ∧ l.1.testBit (i - l.2) = true) ∧ i - l.2 < k) := by
            constructor
            · rintro ⟨x, y⟩
              exact ⟨x, by omega⟩
            · rintro ⟨x, y⟩
              exact ⟨x, by omega⟩
          simp only [a, b]
        rw [this]
theorem ordL_snoc {w : Nat} {ls : List Lv} {l : Lv} (hl : LvOk w l) : rowK w (ordL w ls) l w = ordL w (ls ++ [l]) := by
  rw [rowK_all hl]
  conv => rhs; unfold ordL
  refine List.map_congr_left fun p hp => ?_
  rw [act_app]
  exact ordL_at ls (sw_lt hl (List.mem_range.mp hp))
theorem oL_loop {w : Nat} (h1 : 1 ≤ w) (h2 : w ≤ 64) {l : Lv} (hl : LvOk w l) (q : Option SV) {row : List Nat} (hr : row.length = w) (g : G) : b2_order_of_levels ⟨[some (.d (.int w)), q, some (.m (.l (iN row))), some (.d (.int l.1)), some (.d (.int l.2)), none], g⟩ = .nx ⟨[some (.d (.int w)), q, some (.m (.l (iN (rowK w row l w)))), some (.d (.int l.1)), some (.d (.int l.2)), none], g⟩ := by
  obtain ⟨st', e, hi⟩ := for_inv (g := gN 5) (body := b1_order_of_levels) (wp := [5]) (fun k st => k ≤ w → st = ⟨[some (.d (.int w)), q, some (.m (.l (iN (rowK w row l k)))), some (.d (.int l.1)), some (.d (.int l.2)), none], g⟩) (rgD 0 w) 0 ⟨[some (.d (.int w)), q, some (.m (.l (iN row))), some (.d (.int l.1)), some (.d (.int l.2)), none], g⟩ (fun _ => by rw [rowK_zero hr]) (by
    intro j d st hd hst
    obtain ⟨hj, rfl⟩ := rgD_get hd
    rw [Nat.zero_add] at hst ⊢
    rw [Int.zero_add]
    have e := hst (by omega)
    subst e
    refine ⟨⟨[some (.d (.int w)), q, some (.m (.l (iN (rowK w row l j)))), some (.d (.int l.1)), some (.d (.int l.2)), some (.d (.int j))], g⟩, ⟨[some (.d (.int w)), q, some (.m (.l (iN (rowK w row l (j + 1))))), some (.d (.int l.1)), some (.d (.int l.2)), some (.d (.int j))], g⟩, rfl, ?_, fun _ => rfl⟩
    have hb : Builtin.bitAnd ((l.1 : Int) / 2 ^ j) 1 = ((bit l.1 j : Nat) : Int) := by rw [shN, and1]; rfl
    rw [bit_test] at hb
    have hlen := rowK_len w row l j
    cases hk : l.1.testBit j with
    | false =>
      rw [rowK_no hk]
      rw [hk] at hb
      simp [b1_order_of_levels, hb]
    | true =>
      rw [hk] at hb
      have ht := hl.top hk
      have hy := rowK_yes (row := row) hl hk
      rw [← hy]
      generalize rowK w row l j = R at *
      have x1 : atI (iN R) (j : Int) = some (.int (oa R j : Nat)) := by
        rw [atI_iN (by omega)]
        unfold oa
        rw [getD_at (by omega)]
      have x2 : atI (iN R) ((j + l.2 : Nat) : Int) = some (.int (oa R (j + l.2) : Nat)) := by
        rw [atI_iN (by omega)]
        unfold oa
        rw [getD_at (by omega)]
      have x3 : ixN R.length (j : Int) = some j := ixN_nat (by omega)
      have x4 : ixN R.length ((j + l.2 : Nat) : Int) = some (j + l.2) := ixN_nat (by omega)
      have x5 : (j : Int) + (l.2 : Int) = ((j + l.2 : Nat) : Int) := by omega
      have ln : ∀ o : List Nat, (iN o).length = o.length := fun o => by simp [iN]
      generalize oa R j = y1 at *
      generalize oa R (j + l.2) = y2 at *
      generalize j + l.2 = js at *
      simp [b1_order_of_levels, hb, x1, x2, x3, x4, x5, ln, iN_set, lim])
  rw [rgD_len, Nat.zero_add] at hi
  have hi := hi (Nat.le_refl _)
  subst hi
  have iw : inR (w : Int) = true := inR_of (by omega) (by omega)
  simp [b2_order_of_levels, iw, e]
theorem oL_all {w : Nat} (h1 : 1 ≤ w) (h2 : w ≤ 64) (q : Option SV) (g : G) : ∀ (ls ms : List Lv), LvsOk w ls → mForL (gT 2 (gsC (gN 3) (gsC (gN 4) gsN))) b2_order_of_levels [3, 4, 5] (lvsD ls) ⟨[some (.d (.int w)), q, some (.m (.l (iN (ordL w ms)))), none, none, none], g⟩ = .nx ⟨[some (.d (.int w)), q, some (.m (.l (iN (ordL w (ms ++ ls))))), none, none, none], g⟩
  | [], ms, _ => by rw [List.append_nil]; rfl
  | l :: ls, ms, h => by
    have hl := h l List.mem_cons_self
    have ih := oL_all h1 h2 q g ls (ms ++ [l]) fun y hy => h y (List.mem_cons_of_mem _ hy)
    have e := oL_loop h1 h2 hl q (ordL_len w ms) g
    rw [ordL_snoc hl] at e
    show mForL _ _ _ (lvD l :: lvsD ls) _ = _
    have eg : gT 2 (gsC (gN 3) (gsC (gN 4) gsN)) (lvD l) ⟨[some (.d (.int w)), q, some (.m (.l (iN (ordL w ms)))), none, none, none], g⟩ = some ⟨[some (.d (.int w)), q, some (.m (.l (iN (ordL w ms)))), some (.d (.int l.1)), some (.d (.int l.2)), none], g⟩ := rfl
    unfold mForL
    rw [eg]
    simp only [e, wipeS, List.set_cons_succ, List.set_cons_zero]
    rw [List.append_assoc] at ih
    exact ih
theorem e_order_of {w : Nat} (h1 : 1 ≤ w) (h2 : w ≤ 64) {ls : List Lv} (h : LvsOk w ls) (hl : ls.length ≤ 100) (g : G) : F_order_of_levels [.int w, .tup (lvsD ls)] g = .ok (.d (.tup (iN (ordL w ls)))) g := by
  have e := oL_all h1 h2 (some (.d (.tup (lvsD ls)))) g ls [] h
  have e0 : ordL w [] = List.range w := by
    unfold ordL
    exact List.map_id' _
  rw [e0, List.nil_append] at e
  have a := e_are_levels h1 h2 h hl g
  have iw : inR (w : Int) = true := inR_of (by omega) (by omega)
  simp [F_order_of_levels, m_order_of_levels, a, iw, iN_range, e, show w ≤ 16777216 by omega]
theorem by_all {w : Nat} (h1 : 1 ≤ w) (h2 : w ≤ 64) (q : Option SV) (g : G) : ∀ (ls : List Lv) (x : Nat), LvsOk w ls → x < 2 ^ w → mForL (gT 2 (gsC (gN 3) (gsC (gN 4) gsN))) b1_by_levels [3, 4] (lvsD ls) ⟨[some (.d (.int w)), q, some (.d (.int x)), none, none], g⟩ = .nx ⟨[some (.d (.int w)), q, some (.d (.int (ls.foldl exN x : Nat))), none, none], g⟩
  | [], x, _, _ => rfl
  | l :: ls, x, h, hx => by
    have hl := h l List.mem_cons_self
    have ih := by_all h1 h2 q g ls (exN x l) (fun y hy => h y (List.mem_cons_of_mem _ hy)) (ex_lt hl hx)
    have e : b1_by_levels ⟨[some (.d (.int w)), q, some (.d (.int x)), some (.d (.int l.1)), some (.d (.int l.2))], g⟩ = .nx ⟨[some (.d (.int w)), q, some (.d (.int (exN x l : Nat))), some (.d (.int l.1)), some (.d (.int l.2))], g⟩ := by
      have := e_swapped h2 hl hx g
      simp [b1_by_levels, this]
    show mForL _ _ _ (lvD l :: lvsD ls) _ = _
    have eg : gT 2 (gsC (gN 3) (gsC (gN 4) gsN)) (lvD l) ⟨[some (.d (.int w)), q, some (.d (.int x)), none, none], g⟩ = some ⟨[some (.d (.int w)), q, some (.d (.int x)), some (.d (.int l.1)), some (.d (.int l.2))], g⟩ := rfl
    unfold mForL
    rw [eg]
    simp only [e, wipeS, List.set_cons_succ, List.set_cons_zero]
    exact ih
theorem e_by_levels {w : Nat} (h1 : 1 ≤ w) (h2 : w ≤ 64) {ls : List Lv} (h : LvsOk w ls) (hl : ls.length ≤ 100) {x : Nat} (hx : x < 2 ^ w) (g : G) : F_by_levels [.int w, .tup (lvsD ls), .int x] g = .ok (.d (.int (ls.foldl exN x : Nat))) g := by
  have e := by_all h1 h2 (some (.d (.tup (lvsD ls)))) g ls x h hx
  have a := e_are_levels h1 h2 h hl g
  generalize ls.foldl exN x = y at *
  simp [F_by_levels, m_by_levels, e_check_word h1 h2 hx, a, e]
theorem e_are_for {w : Nat} {o : List Nat} (h1 : 1 ≤ w) (h2 : w ≤ 64) (ho : o.Perm (List.range w)) {ls : List Lv} (h : LvsOk w ls) (hl : ls.length ≤ 100) (g : G) : F_are_levels_for [.int w, .tup (iN o), .tup (lvsD ls)] g = .ok (.d (.bl (decide (zI (ordL w ls) = zI o)))) g := by
  have a := e_are_levels h1 h2 h hl g
  have b := e_order_of h1 h2 h hl g
  have e : fEq (.tup (iN (ordL w ls))) (.tup (iN o)) = some (.bl (decide (zI (ordL w ls) = zI o))) := by
    rw [iN_z, iN_z, fEq_tupI]
  simp [F_are_levels_for, m_are_levels_for, e_check_order h1 h2 ho, a, b, e]
end Law
namespace Law
open PySem PySem.Spec PyProof.Rows L2 Y
/-! ### coloured told -/
def flD (V : List Nat) (f : Nat → Nat) (b : Nat → Bool) (p : Nat) : D := match V.find? (fun v => f v == p) with
  | some v => .bl (b v)
  | none => .non
def flL (h : Nat) (V : List Nat) (f : Nat → Nat) (b : Nat → Bool) : List D := (List.range h).map (flD V f b)
theorem flL_len (h : Nat) (V : List Nat) (f : Nat → Nat) (b : Nat → Bool) : (flL h V f b).length = h := by simp [flL]
theorem flL_at {h : Nat} (V : List Nat) (f : Nat → Nat) (b : Nat → Bool) {p : Nat} (hp : p < h) : atI (flL h V f b) (p : Int) = some (flD V f b p) := by
  rw [Y.atI_nat]
  simp [flL, hp]
theorem flL_nil (h : Nat) (f : Nat → Nat) (b : Nat → Bool) : flL h [] f b = List.replicate h .non := by
  unfold flL
  have : flD [] f b = fun _ => .non := by funext p; rfl
  rw [this, List.map_const', List.length_range]
theorem flD_non {V : List Nat} {f : Nat → Nat} (b : Nat → Bool) {p : Nat} (h : p ∉ V.map f) : flD V f b p = .non := by
  unfold flD
  rw [List.find?_eq_none.mpr fun v hv => by
    intro e
    exact h (List.mem_map.mpr ⟨v, hv, by simpa using e⟩)]
theorem flD_some {V : List Nat} {f : Nat → Nat} (b : Nat → Bool) {p : Nat} (h : p ∈ V.map f) : ∃ x, flD V f b p = .bl x := by
  obtain ⟨v, hv, e⟩ := List.mem_map.mp h
  unfold flD
  cases q : V.find? (fun v => f v == p) with
  | none =>
    have := List.find?_eq_none.mp q v hv
    simp [e] at this
  | some u => exact ⟨_, rfl⟩
theorem flL_set {h : Nat} {V : List Nat} {f : Nat → Nat} (b : Nat → Bool) {c : Nat} (hn : f c ∉ V.map f) : (flL h V f b).set (f c) (.bl (b c)) = flL h (V ++ [c]) f b := by
  apply List.ext_getElem
  · simp [flL]
  · intro i q1 q2
    rw [List.getElem_set]
    simp only [flL, List.getElem_map, List.getElem_range]
    unfold flD
    rw [List.find?_append]
    split
    · rename_i e
      subst e
      have : V.find? (fun v => f v == f c) = none := List.find?_eq_none.mpr fun v hv e => hn (List.mem_map.mpr ⟨v, hv, by simpa using e⟩)
      rw [this]
      simp
    · rename_i e
      have : ([c].find? fun v => f v == i) = none := by simp [e]
      rw [this, Option.or_none]
theorem bl_ne (b : Bool) : fNe (.bl false) (.bl b) = some (.bl b) := by cases b <;> simp [fNe]
theorem ne_bb (a b : Bool) : fNe (.bl a) (.bl b) = some (.bl (a != b)) := by cases a <;> cases b <;> simp [fNe]
section
variable {h : Nat} {o : List Nat}
abbrev S75 (o : List Nat) (h : Nat) (q3 q4 : Option SV) (V : List Nat) (q7 q8 q9 : Option SV) (g : G) : MS :=
  ⟨[some (.d (.lst (iN o))), some (.d (.int h)), some (.m (.l (iN (backN (2 * h) o)))), q3, q4, some (.m (.l (flL h V (oa o · % h) fun v => decide (h ≤ oa o v)))), some (.m (.l (flL h V (· % h) fun v => decide (h ≤ v)))), q7, q8, q9], g⟩
theorem int_mod (a b : Nat) : (a : Int) % (b : Int) = ((a % b : Nat) : Int) := by simp
theorem col_body (h0 : 0 < h) (h2 : h ≤ 32) (ho : o.Perm (List.range (2 * h))) {V : List Nat} {cur : Nat} (c : Col o h V cur) (hc : cur < 2 * h) (hn : cur % h ∉ V.map (· % h)) (q7 : Option SV) (g : G) :
    ∃ u4 u9, b2_coloured (S75 o h (some (.d (.int cur))) none V q7 (some (.d (.bl false))) none g) = .nx (S75 o h (some (.d (.int (sg o h cur : Nat)))) u4 (V ++ [cur]) q7 (some (.d (.bl false))) u9 g) := by
  have hs := (c.step h0 ho hc hn).1
  have s1 := flL_set (h := h) (V := V) (f := (· % h)) (fun v => decide (h ≤ v)) (c := cur) hn
  have s2 := flL_set (h := h) (V := V) (f := (oa o · % h)) (fun v => decide (h ≤ oa o v)) (c := cur) hs
  have l1 := flL_len h V (oa o · % h) fun v => decide (h ≤ oa o v)
  have l2 := flL_len h V (· % h) fun v => decide (h ≤ v)
  have hw := ord_len ho
  have hop := oa_lt ho hc
  have hr1 : cur % h < h := Nat.mod_lt _ h0
  have hr2 : oa o cur % h < h := Nat.mod_lt _ h0
  have a1 : atI (iN o) (cur : Int) = some (.int (oa o cur : Nat)) := by
    rw [atI_iN (by omega)]
    unfold oa
    rw [getD_at (by omega)]
  have hpl := pt_lt h0 (oa o cur)
  have a2 : atI (iN (backN (2 * h) o)) ((pt h (oa o cur) : Nat) : Int) = some (.int (o.idxOf (pt h (oa o cur)) : Nat)) := by
    rw [atI_iN (by rw [back_len]; exact hpl), ← getD_at (by rw [back_len]; exact hpl), back_at hpl]
  have m1 := int_mod cur h
  have m2 := int_mod (oa o cur) h
  have m3 : ((oa o cur : Nat) : Int) + (h : Int) = ((oa o cur + h : Nat) : Int) := by omega
  have m4 : (2 : Int) * (h : Int) = ((2 * h : Nat) : Int) := by omega
  have m5 : ((oa o cur + h : Nat) : Int) % ((2 * h : Nat) : Int) = ((pt h (oa o cur) : Nat) : Int) := by rw [int_mod]; rfl
  have m6 : ((o.idxOf (pt h (oa o cur)) : Nat) : Int) + (h : Int) = ((o.idxOf (pt h (oa o cur)) + h : Nat) : Int) := by omega
  have m7 : ((o.idxOf (pt h (oa o cur)) + h : Nat) : Int) % ((2 * h : Nat) : Int) = ((sg o h cur : Nat) : Int) := by rw [int_mod]; rfl
  have mm : mulC 2 (h : Int) = true := m22 _
  have x1 : ixN h ((cur % h : Nat) : Int) = some (cur % h) := ixN_nat hr1
  have x2 : ixN h ((oa o cur % h : Nat) : Int) = some (oa o cur % h) := ixN_nat hr2
  have d1 : decide ((h : Int) ≤ (cur : Int)) = decide (h ≤ cur) := decide_eq_decide.mpr (by omega)
  have d2 : decide ((h : Int) ≤ ((oa o cur : Nat) : Int)) = decide (h ≤ oa o cur) := decide_eq_decide.mpr (by omega)
  have z1 : (0 : Int) < (h : Int) := by omega
  have z2 : (0 : Int) < ((2 * h : Nat) : Int) := by omega
  refine ⟨some (.d (.int (oa o cur : Nat))), some (.d (.int (pt h (oa o cur) : Nat))), ?_⟩
  unfold S75
  rw [← s1, ← s2]
  generalize (flL h V (oa o · % h) fun v => decide (h ≤ oa o v)) = F1 at *
  generalize (flL h V (· % h) fun v => decide (h ≤ v)) = F2 at *
  generalize sg o h cur = sgc at *
  generalize o.idxOf (pt h (oa o cur)) + h = e1 at *
  generalize o.idxOf (pt h (oa o cur)) = e2 at *
  generalize pt h (oa o cur) = e3 at *
  generalize oa o cur + h = e4 at *
  generalize oa o cur % h = e5 at *
  generalize oa o cur = e6 at *
  generalize cur % h = e7 at *
  generalize backN (2 * h) o = BK at *
  generalize 2 * h = hh at *
  simp only [← d1, ← d2]
  simp [b2_coloured, a1, a2, m1, m2, m3, m4, m5, m6, m7, mm, x1, x2, z1, z2, l1, l2, bl_ne, -Int.natCast_emod, -Int.natCast_add, -Int.natCast_mul, -Int.natCast_pos, -Int.ofNat_le]
end
end Law
namespace Law
open PySem PySem.Spec PyProof.Rows L2 Y
section
variable {h : Nat} {o : List Nat}
theorem fl_non (x : D) (hx : x = .non ∨ ∃ b, x = .bl b) : fIsN false x .non = some (.bl (match x with | .non => true | _ => false)) := by
  rcases hx with rfl | ⟨b, rfl⟩ <;> rfl
theorem col_test (h0 : 0 < h) {V : List Nat} {cur : Nat} (q3 q4 q7 q8 q9 : Option SV) (g : G) :
    t1_coloured (S75 o h (some (.d (.int cur))) q4 V q7 q8 q9 g) = .ok (decide (cur % h ∉ V.map (· % h))) (S75 o h (some (.d (.int cur))) q4 V q7 q8 q9 g) := by
  have hr1 : cur % h < h := Nat.mod_lt _ h0
  have a := flL_at V (· % h) (fun v => decide (h ≤ v)) hr1
  have m1 := int_mod cur h
  have z1 : (0 : Int) < (h : Int) := by omega
  unfold S75
  by_cases hn : cur % h ∈ V.map (· % h)
  · rw [decide_eq_false (fun z => z hn)]
    obtain ⟨x, hx⟩ := flD_some (fun v => decide (h ≤ v)) hn
    rw [hx] at a
    generalize (flL h V (· % h) fun v => decide (h ≤ v)) = F2 at *
    generalize cur % h = e7 at *
    simp [t1_coloured, a, m1, z1, h0, -Int.natCast_emod]
  · rw [decide_eq_true hn]
    rw [flD_non _ hn] at a
    generalize (flL h V (· % h) fun v => decide (h ≤ v)) = F2 at *
    generalize cur % h = e7 at *
    simp [t1_coloured, a, m1, z1, h0, -Int.natCast_emod]
theorem col_walk (h0 : 0 < h) (h2 : h ≤ 32) (ho : o.Perm (List.range (2 * h))) {V : List Nat} {cur : Nat} (c : Col o h V cur) (hc : cur < 2 * h) (q7 : Option SV) (g : G) :
    ∃ u3 u8, mWhile t1_coloured b2_coloured [4, 9] (S75 o h (some (.d (.int cur))) none V q7 (some (.d (.bl false))) none g) = .nx (S75 o h u3 none (colW o h (h + 1) V cur).1 q7 u8 none g) := by
  obtain ⟨T, hT⟩ : ∃ T, colW o h (h + 1) V cur = T := ⟨_, rfl⟩
  rw [hT]
  obtain ⟨s, e, hs⟩ := while_ok (mt := t1_coloured) (m := b2_coloured) (wp := [4, 9])
    (fun n st => ∃ (W : List Nat) (cr f : Nat), n = h - W.length ∧ h < f + W.length ∧ Col o h W cr ∧ cr < 2 * h ∧ colW o h f W cr = T ∧ st = S75 o h (some (.d (.int cr))) none W q7 (some (.d (.bl false))) none g)
    (fun st => ∃ u3 u8, st = S75 o h u3 none T.1 q7 u8 none g) (by
      rintro n st ⟨W, cr, f, rfl, hf, cw, hcr, hwk, rfl⟩
      have ht := col_test (o := o) h0 (V := W) (cur := cr) none none q7 (some (.d (.bl false))) none g
      have hl := cw.len h0
      cases f with
      | zero => omega
      | succ f =>
      unfold colW at hwk
      split at hwk
      · rename_i hm
        rw [decide_eq_false (fun z => z hm)] at ht
        exact .inl ⟨_, ht, some (.d (.int cr)), some (.d (.bl false)), by rw [← hwk]⟩
      · rename_i hm
        rw [decide_eq_true hm] at ht
        obtain ⟨u4, u9, hb⟩ := col_body h0 h2 ho cw hcr hm q7 g
        have cs := (cw.step h0 ho hcr hm).2
        have hl2 := cs.len h0
        rw [List.length_append, List.length_singleton] at hl2
        exact .inr ⟨_, _, h - (W ++ [cr]).length, ht, hb, by rw [List.length_append, List.length_singleton]; omega, W ++ [cr], sg o h cr, f, rfl, by rw [List.length_append, List.length_singleton]; omega, cs, sg_lt h0 cr, hwk, rfl⟩) (n := h - V.length) (by omega) ⟨V, cur, h + 1, rfl, by omega, c, hc, hT, rfl⟩
  obtain ⟨u3, u8, rfl⟩ := hs
  exact ⟨u3, u8, e⟩
theorem col_loop (h0 : 0 < h) (h2 : h ≤ 32) (ho : o.Perm (List.range (2 * h))) (g : G) : mForL (gN 7) b3_coloured [7, 3, 8, 4, 9] (rgD 0 h) (S75 o h none none [] none none none g) = .nx (S75 o h none none (lowV o h) none none none g) := by
  obtain ⟨st', e, hi⟩ := for_inv (g := gN 7) (body := b3_coloured) (wp := [7, 3, 8, 4, 9]) (fun k st => k ≤ h → st = S75 o h none none (colF o h k) none none none g) (rgD 0 h) 0 (S75 o h none none [] none none none g) (fun _ => rfl) (by
    intro j d st hd hst
    obtain ⟨hj, rfl⟩ := rgD_get hd
    rw [Nat.zero_add] at hst ⊢
    rw [Int.zero_add]
    have e := hst (by omega)
    subst e
    obtain ⟨c, _⟩ := colF_ok h0 ho j (by omega)
    obtain ⟨u3, u8, hw⟩ := col_walk h0 h2 ho (c.col j) (show j < 2 * h by omega) (some (.d (.int j))) g
    refine ⟨S75 o h none none (colF o h j) (some (.d (.int j))) none none g, S75 o h u3 none (colF o h (j + 1)) (some (.d (.int j))) u8 none g, rfl, ?_, fun _ => rfl⟩
    rw [colF_succ]
    unfold S75 at hw ⊢
    generalize (flL h (colF o h j) (oa o · % h) fun v => decide (h ≤ oa o v)) = F1 at *
    generalize (flL h (colF o h j) (· % h) fun v => decide (h ≤ v)) = F2 at *
    simp [b3_coloured, hw])
  rw [rgD_len, Nat.zero_add] at hi
  have hi := hi (Nat.le_refl _)
  subst hi
  exact e
def blL (h : Nat) (f : Nat → Bool) : List D := (List.range h).map fun p => .bl (f p)
theorem flL_bl {V : List Nat} {f : Nat → Nat} {b : Nat → Bool} (hp : (V.map f).Perm (List.range h)) : flL h V f b = blL h fun p => b (lowAt V f p) := by
  unfold flL blL
  refine List.map_congr_left fun p hm => ?_
  have hm' := hp.mem_iff.mpr hm
  obtain ⟨v, hv, e⟩ := List.mem_map.mp hm'
  unfold flD lowAt
  cases q : V.find? (fun v => f v == p) with
  | none =>
    have := List.find?_eq_none.mp q v hv
    simp [e] at this
  | some u =>
    show D.bl (b u) = D.bl (b ((V.find? fun v => f v == p).getD 0))
    rw [q]
    rfl
theorem e_coloured (h0 : 0 < h) (h2 : h ≤ 32) (ho : o.Perm (List.range (2 * h))) (g : G) : F_coloured [.lst (iN o), .int h] g = .ok (.d (.tup [.lst (blL h (firstB o h)), .lst (blL h (lastB o h))])) g := by
  have bk := bk_loop (w := 2 * h) (by omega) (by omega) ho (fun ds => [some (.d (.lst (iN o))), some (.d (.int h)), some (.m (.l ds)), none, none, none, none, none, none, none]) g b4_coloured (gT 2 (gsC (gN 3) (gsC (gN 4) gsN))) [3, 4] (by
    intro j p ds hp hl
    refine ⟨⟨[some (.d (.lst (iN o))), some (.d (.int h)), some (.m (.l ds)), some (.d (.int j)), some (.d (.int p)), none, none, none, none, none], g⟩, ⟨[some (.d (.lst (iN o))), some (.d (.int h)), some (.m (.l (ds.set p (.int j)))), some (.d (.int j)), some (.d (.int p)), none, none, none, none, none], g⟩, rfl, ?_, rfl⟩
    have hx := ixN_nat (n := ds.length) (i := p) (by omega)
    simp [b4_coloured, hx])
  have cl := col_loop h0 h2 ho g
  have c := low_ok h0 ho
  have f1 := flL_bl (b := fun v => decide (h ≤ oa o v)) c.p2
  have f2 := flL_bl (b := fun v => decide (h ≤ v)) c.p1
  unfold S75 at cl
  rw [f1, f2, flL_nil, flL_nil] at cl
  have ih : inR (h : Int) = true := inR_of (by omega) (by omega)
  have mm : mulC 2 (h : Int) = true := m22 _
  have m4 : (2 : Int) * (h : Int) = ((2 * h : Nat) : Int) := by omega
  have t4 : ((2 : Int) * (h : Int)).toNat = 2 * h := by omega
  have hb : 2 * h ≤ 1000000 := by omega
  have hb2 : h ≤ 1000000 := by omega
  have na : (2 * (h : Int)).natAbs = 2 * h := by omega
  show F_coloured _ g = .ok (.d (.tup [.lst (blL h fun p => decide (h ≤ oa o (lowAt (lowV o h) (oa o · % h) p))), .lst (blL h fun p => decide (h ≤ lowAt (lowV o h) (· % h) p))])) g
  generalize (blL h fun p => decide (h ≤ oa o (lowAt (lowV o h) (oa o · % h) p))) = F1 at *
  generalize (blL h fun p => decide (h ≤ lowAt (lowV o h) (· % h) p)) = F2 at *
  simp [F_coloured, m_coloured, mm, t4, na, ih, lim, hb, hb2, rep_iN, bk, cl]
end
end Law
namespace Law
open PySem PySem.Spec PyProof.Rows L2 Y
/-! ### routed told -/
theorem lc_filterK2 {α : Type} {g : Gt} {mt : Mo Bool} {me : Mo D} {own : List Nat} (p : α → Bool) (it f : α → D) (st : MS) (ks : List α) (hi : ∀ k ∈ ks, ∃ s1, g (it k) st = some s1 ∧ mt s1 = .ok (p k) s1 ∧ (p k = true → me s1 = .ok (f k) s1) ∧ ({ s1 with sl := wipeS s1.sl own } : MS) = st) (hl : ks.length ≤ lim) : lcL g mt me own (ks.map it) [] st = .ok ((ks.filter p).map f) st := by
  have key : ∀ (ks : List α) (acc : List D), (∀ k ∈ ks, ∃ s1, g (it k) st = some s1 ∧ mt s1 = .ok (p k) s1 ∧ (p k = true → me s1 = .ok (f k) s1) ∧ ({ s1 with sl := wipeS s1.sl own } : MS) = st) → acc.length + ks.length ≤ lim → lcL g mt me own (ks.map it) acc st = .ok (acc ++ (ks.filter p).map f) st := by
    intro ks
    induction ks with
    | nil => intro acc _ _; rw [List.map_nil, List.filter_nil, List.map_nil, List.append_nil]; rfl
    | cons x xs ih =>
      intro acc hi hl
      obtain ⟨s1, e1, e2, e3, e4⟩ := hi x List.mem_cons_self
      have hl' : acc.length + (xs.length + 1) ≤ lim := hl
      have hi' := fun y hy => hi y (List.mem_cons_of_mem _ hy)
      rw [List.map_cons]
      unfold lcL
      simp only [e1, e2]
      cases hp : p x with
      | true =>
        simp only [if_true, e3 hp, e4]
        rw [if_pos (decide_eq_true (by omega)), ih (acc ++ [f x]) hi' (by rw [List.length_append, List.length_singleton]; omega), List.append_assoc, List.filter_cons_of_pos hp]
        rfl
      | false =>
        simp only [Bool.false_eq_true, if_false, e4]
        rw [ih acc hi' (by omega), List.filter_cons_of_neg (by simp [hp])]
  have := key ks [] hi (by simpa using hl)
  simpa using this
theorem sum_filter (f : Nat → Bool) (g : Nat → Int) : ∀ l : List Nat, ((l.filter f).map g).sum = (l.map fun k => ((f k).toNat : Int) * g k).sum
  | [] => rfl
  | x :: l => by
    have ih := sum_filter f g l
    rw [List.map_cons, List.sum_cons, ← ih]
    cases q : f x with
    | true => rw [List.filter_cons_of_pos q, List.map_cons, List.sum_cons]; simp
    | false => rw [List.filter_cons_of_neg (by simp [q])]; simp
theorem enum_bl (h : Nat) (f : Nat → Bool) : enumD (blL h f) = (List.range h).map fun (k : Nat) => .tup [.int (k : Int), .bl (f k)] := by
  unfold enumD
  have hl : (blL h f).length = h := by simp [blL]
  rw [hl]
  refine List.map_congr_left fun k hk => ?_
  have hk := List.mem_range.mp hk
  have : (blL h f).getD k .non = .bl (f k) := by
    unfold blL
    rw [List.getD_eq_getElem?_getD]
    simp [hk]
  rw [this]
theorem e_mask_of {h : Nat} (h2 : h ≤ 64) (f : Nat → Bool) (g : G) : F_mask_of [.lst (blL h f)] g = .ok (.d (.int (mkB h f : Nat))) g := by
  have e := lc_filterK2 (g := gT 2 (gsC (gN 1) (gsC (gN 2) gsN))) (mt := mTest (mVar 2)) (me := e1_mask_of) (own := [1, 2]) f (fun (k : Nat) => D.tup [.int (k : Int), .bl (f k)]) (fun k : Nat => D.int (2 ^ k)) ⟨[some (.d (.lst (blL h f))), none, none], g⟩ (List.range h) (by
    intro k hk
    have hk := List.mem_range.mp hk
    refine ⟨⟨[some (.d (.lst (blL h f))), some (.d (.int k)), some (.d (.bl (f k)))], g⟩, rfl, ?_, fun _ => ?_, rfl⟩
    · generalize f k = b
      cases b <;> simp
    · have := shl1 (n := k) (by omega)
      simp [e1_mask_of, this]) (by rw [List.length_range]; unfold lim; omega)
  rw [← enum_bl] at e
  have hi : intsOf (((List.range h).filter f).map fun k : Nat => D.int (2 ^ k)) = some (((List.range h).filter f).map fun k : Nat => (2 : Int) ^ k) := by
    have := intsOf_map (((List.range h).filter f).map fun k : Nat => (2 : Int) ^ k)
    rw [List.map_map] at this
    exact this
  have hs := sum_filter f (fun k => (2 : Int) ^ k) (List.range h)
  have hn := sum_num h fun k => (f k).toNat
  have hc : ((List.range h).map fun k => ((f k).toNat : Int) * 2 ^ k) = (List.range h).map fun k => (((f k).toNat * 2 ^ k : Nat) : Int) := by
    refine List.map_congr_left fun k _ => ?_
    simp
  rw [hc, hn] at hs
  have hs' : (((List.range h).filter f).map fun k : Nat => (2 : Int) ^ k).sum = ((mkB h f : Nat) : Int) := hs
  generalize (((List.range h).filter f).map fun k : Nat => D.int (2 ^ k)) = L at *
  generalize (((List.range h).filter f).map fun k : Nat => (2 : Int) ^ k) = M at *
  simp [F_mask_of, m_mask_of, e, hi, hs']
section
variable {h : Nat} {o : List Nat}
def lowK (o : List Nat) (h k : Nat) : List Nat := (List.range h).map fun p => if vN o h p < k then oa o (vN o h p) % h else 0
def uppK (o : List Nat) (h k : Nat) : List Nat := (List.range h).map fun p => if pt h (vN o h p) < k then oa o (pt h (vN o h p)) % h else 0
theorem lowK_zero : lowK o h 0 = List.replicate h 0 := by
  unfold lowK
  have : (fun p => if vN o h p < 0 then oa o (vN o h p) % h else 0) = fun _ => 0 := by funext p; simp
  rw [this, List.map_const', List.length_range]
theorem uppK_zero : uppK o h 0 = List.replicate h 0 := by
  unfold uppK
  have : (fun p => if pt h (vN o h p) < 0 then oa o (pt h (vN o h p)) % h else 0) = fun _ => 0 := by funext p; simp
  rw [this, List.map_const', List.length_range]
theorem lowK_all (h0 : 0 < h) (ho : o.Perm (List.range (2 * h))) : lowK o h (2 * h) = loN o h := by
  refine List.map_congr_left fun p hp => ?_
  obtain ⟨a, b, c⟩ := v_ok h0 ho (List.mem_range.mp hp)
  rw [if_pos c]
theorem uppK_all (h0 : 0 < h) : uppK o h (2 * h) = upN o h := by
  refine List.map_congr_left fun p hp => ?_
  rw [if_pos (pt_lt h0 _)]
theorem set_ext {l : List Nat} {n q x : Nat} {f g : Nat → Nat} (hl : l = (List.range n).map f) (hq : g q = x) (hne : ∀ p, p < n → p ≠ q → f p = g p) : l.set q x = (List.range n).map g := by
  subst hl
  apply List.ext_getElem
  · simp
  · intro i q1 q2
    have hi : i < n := by simpa using q2
    rw [List.getElem_set]
    simp only [List.getElem_map, List.getElem_range]
    split
    · rename_i e
      rw [← e, hq]
    · rename_i e
      exact hne i hi fun z => e z.symm
/-- at k: low or up -/
theorem step_low (h0 : 0 < h) (ho : o.Perm (List.range (2 * h))) {k : Nat} (hk : k < 2 * h) (hm : vN o h (k % h) = k) : (lastB o h (k % h) != decide (h ≤ k)) = false ∧ (lowK o h k).set (k % h) (oa o k % h) = lowK o h (k + 1) ∧ uppK o h (k + 1) = uppK o h k := by
  have hr : k % h < h := Nat.mod_lt _ h0
  refine ⟨?_, set_ext rfl (by show (if vN o h (k % h) < k + 1 then _ else 0) = _; rw [hm, if_pos (by omega)]) fun p hp hne => ?_, List.map_congr_left fun p hp => ?_⟩
  · unfold lastB
    rw [hm]
    simp
  · obtain ⟨a, b, c⟩ := v_ok h0 ho hp
    have : vN o h p ≠ k := fun e => by rw [e] at b; exact hne b.symm
    by_cases z : vN o h p < k
    · rw [if_pos z, if_pos (by omega)]
    · rw [if_neg z, if_neg (by omega)]
  · have hp := List.mem_range.mp hp
    obtain ⟨a, b, c⟩ := v_ok h0 ho hp
    have : pt h (vN o h p) ≠ k := fun e => by
      have e2 : p = k % h := by rw [← e, pt_mod c, b]
      rw [← e2] at hm
      rw [hm] at e
      exact pt_ne hk e
    by_cases z : pt h (vN o h p) < k
    · rw [if_pos z, if_pos (by omega)]
    · rw [if_neg z, if_neg (by omega)]
theorem step_upp (h0 : 0 < h) (ho : o.Perm (List.range (2 * h))) {k : Nat} (hk : k < 2 * h) (hm : vN o h (k % h) ≠ k) : (lastB o h (k % h) != decide (h ≤ k)) = true ∧ (uppK o h k).set (k % h) (oa o k % h) = uppK o h (k + 1) ∧ lowK o h (k + 1) = lowK o h k := by
  have hr : k % h < h := Nat.mod_lt _ h0
  obtain ⟨a, b, c⟩ := v_ok h0 ho hr
  have hv : vN o h (k % h) = pt h k := by
    rcases same_mod c hk b with e | e
    · exact absurd e hm
    · exact e
  refine ⟨?_, set_ext rfl (by show (if pt h (vN o h (k % h)) < k + 1 then _ else 0) = _; rw [hv, pt_pt hk, if_pos (by omega)]) fun p hp hne => ?_, List.map_congr_left fun p hp => ?_⟩
  · unfold lastB
    rw [hv, pt_eq hk]
    by_cases z : k < h
    · rw [if_pos z, decide_eq_true (by omega), decide_eq_false (by omega)]
      rfl
    · rw [if_neg z, decide_eq_false (by omega), decide_eq_true (by omega)]
      rfl
  · obtain ⟨a, b, c⟩ := v_ok h0 ho hp
    have : pt h (vN o h p) ≠ k := fun e => by
      have e2 : p = k % h := by rw [← e, pt_mod c, b]
      exact hne e2
    by_cases z : pt h (vN o h p) < k
    · rw [if_pos z, if_pos (by omega)]
    · rw [if_neg z, if_neg (by omega)]
  · have hp := List.mem_range.mp hp
    obtain ⟨a, b, c⟩ := v_ok h0 ho hp
    have : vN o h p ≠ k := fun e => by
      rw [e] at b
      rw [← b] at e
      exact hm e
    by_cases z : vN o h p < k
    · rw [if_pos z, if_pos (by omega)]
    · rw [if_neg z, if_neg (by omega)]
theorem blL_at {f : Nat → Bool} {p : Nat} (hp : p < h) : atI (blL h f) (p : Int) = some (.bl (f p)) := by
  rw [Y.atI_nat]
  simp [blL, hp]
theorem rt_loop (R : Fm) (h0 : 0 < h) (h2 : h ≤ 32) (ho : o.Perm (List.range (2 * h))) (q1 q3 : Option SV) (g : G) :
    mForL (gT 2 (gsC (gN 7) (gsC (gN 8) gsN))) (b2_routed R) [7, 8, 9, 10] (enumD (iN o)) ⟨[some (.d (.lst (iN o))), q1, some (.d (.int h)), q3, some (.d (.lst (blL h (lastB o h)))), some (.m (.l (iN (List.replicate h 0)))), some (.m (.l (iN (List.replicate h 0)))), none, none, none, none, none, none, none, none, none], g⟩
    = .nx ⟨[some (.d (.lst (iN o))), q1, some (.d (.int h)), q3, some (.d (.lst (blL h (lastB o h)))), some (.m (.l (iN (upN o h)))), some (.m (.l (iN (loN o h)))), none, none, none, none, none, none, none, none, none], g⟩ := by
  have hw := ord_len ho
  obtain ⟨st', e, hi⟩ := for_inv (g := gT 2 (gsC (gN 7) (gsC (gN 8) gsN))) (body := b2_routed R) (wp := [7, 8, 9, 10]) (fun k st => k ≤ 2 * h → st = ⟨[some (.d (.lst (iN o))), q1, some (.d (.int h)), q3, some (.d (.lst (blL h (lastB o h)))), some (.m (.l (iN (uppK o h k)))), some (.m (.l (iN (lowK o h k)))), none, none, none, none, none, none, none, none, none], g⟩) (enumD (iN o)) 0 ⟨[some (.d (.lst (iN o))), q1, some (.d (.int h)), q3, some (.d (.lst (blL h (lastB o h)))), some (.m (.l (iN (List.replicate h 0)))), some (.m (.l (iN (List.replicate h 0)))), none, none, none, none, none, none, none, none, none], g⟩ (fun _ => by rw [lowK_zero, uppK_zero]) (by
    intro j d st hd hst
    obtain ⟨x, hx, rfl⟩ := enumD_get hd
    rw [iN_at] at hx
    obtain ⟨p, hp, rfl⟩ := Option.map_eq_some_iff.mp hx
    obtain ⟨hj, rfl⟩ := List.getElem?_eq_some_iff.mp hp
    rw [Nat.zero_add] at hst ⊢
    have hj2 : j < 2 * h := by omega
    have e := hst (by omega)
    subst e
    have eo : o[j] = oa o j := by unfold oa; rw [getD_at hj]
    have hr : j % h < h := Nat.mod_lt _ h0
    have m1 := int_mod j h
    have m2 := int_mod (oa o j) h
    have bA := blL_at (f := lastB o h) hr
    have d1 : decide ((h : Int) ≤ (j : Int)) = decide (h ≤ j) := decide_eq_decide.mpr (by omega)
    have l1 : (lowK o h j).length = h := by simp [lowK]
    have l2 : (uppK o h j).length = h := by simp [uppK]
    have ln : ∀ o : List Nat, (iN o).length = o.length := fun o => by simp [iN]
    have xi : ixN h ((j % h : Nat) : Int) = some (j % h) := ixN_nat hr
    refine ⟨⟨[some (.d (.lst (iN o))), q1, some (.d (.int h)), q3, some (.d (.lst (blL h (lastB o h)))), some (.m (.l (iN (uppK o h j)))), some (.m (.l (iN (lowK o h j)))), some (.d (.int j)), some (.d (.int (oa o j : Nat))), none, none, none, none, none, none, none], g⟩, ⟨[some (.d (.lst (iN o))), q1, some (.d (.int h)), q3, some (.d (.lst (blL h (lastB o h)))), some (.m (.l (iN (uppK o h (j + 1))))), some (.m (.l (iN (lowK o h (j + 1))))), some (.d (.int j)), some (.d (.int (oa o j : Nat))), some (.d (.bl (lastB o h (j % h) != decide (h ≤ j)))), some (.d (.int (oa o j % h : Nat))), none, none, none, none, none], g⟩, by rw [eo]; rfl, ?_, fun _ => rfl⟩
    have nb := ne_bb (lastB o h (j % h)) (decide (h ≤ j))
    by_cases hm : vN o h (j % h) = j
    · obtain ⟨s1, s2, s3⟩ := step_low h0 ho hj2 hm
      rw [s1] at nb ⊢
      rw [← s2, s3]
      generalize lastB o h (j % h) = lb at *
      generalize j % h = e1 at *
      generalize oa o j % h = e2 at *
      generalize oa o j = e3 at *
      generalize lowK o h j = K1 at *
      generalize uppK o h j = K2 at *
      simp only [← d1] at nb
      simp [b2_routed, bA, m1, m2, h0, nb, l1, l2, ln, xi, iN_set, -Int.natCast_emod, -Int.ofNat_le]
    · obtain ⟨s1, s2, s3⟩ := step_upp h0 ho hj2 hm
      rw [s1] at nb ⊢
      rw [← s2, s3]
      generalize lastB o h (j % h) = lb at *
      generalize j % h = e1 at *
      generalize oa o j % h = e2 at *
      generalize oa o j = e3 at *
      generalize lowK o h j = K1 at *
      generalize uppK o h j = K2 at *
      simp only [← d1] at nb
      simp [b2_routed, bA, m1, m2, h0, nb, l1, l2, ln, xi, iN_set, -Int.natCast_emod, -Int.ofNat_le])
  have hl : (enumD (iN o)).length = 2 * h := by rw [enum_iN]; simp [hw]
  rw [hl, Nat.zero_add] at hi
  have hi := hi (Nat.le_refl _)
  subst hi
  rw [e, lowK_all h0 ho, uppK_all h0]
end
theorem zip_pairs (h : Nat) : ∀ A B : List Lv, zip2D (lvsD A) (lvsD B) = (List.zip A B).map fun p => .tup [lvD p.1, lvD p.2]
  | [], _ => by simp [lvsD, zip2D]
  | _ :: _, [] => by simp [lvsD, zip2D]
  | a :: A, b :: B => by
    have ih := zip_pairs h A B
    show D.tup [lvD a, lvD b] :: zip2D (lvsD A) (lvsD B) = _
    rw [ih]
    rfl
theorem zip_cmb (h : Nat) : ∀ A B : List Lv, (List.zip A B).map (fun p => lvD (cmb h p.1 p.2)) = lvsD (List.zipWith (cmb h) A B)
  | [], _ => by simp [lvsD]
  | _ :: _, [] => by simp [lvsD]
  | a :: A, b :: B => by
    have ih := zip_cmb h A B
    rw [List.zip_cons_cons, List.map_cons, ih]
    rfl
end Law
namespace Law
open PySem PySem.Spec PyProof.Rows L2 Y
theorem rt_zip (R : Fm) {h : Nat} (h2 : h ≤ 32) {A B : List Lv} (hA : LvsOk h A) (hB : LvsOk h B) (hl : A.length ≤ 100) (q0 q1 q3 q4 q5 q6 q11 q12 : Option SV) (g : G) :
    lcL (gT 2 (gsC (gN 14) (gsC (gN 15) gsN))) mYes (e1_routed R) [14, 15] (zip2D (lvsD A) (lvsD B)) [] ⟨[q0, q1, some (.d (.int h)), q3, q4, q5, q6, none, none, none, none, q11, q12, none, none, none], g⟩
    = .ok (lvsD (List.zipWith (cmb h) A B)) ⟨[q0, q1, some (.d (.int h)), q3, q4, q5, q6, none, none, none, none, q11, q12, none, none, none], g⟩ := by
  rw [zip_pairs h, ← zip_cmb]
  refine lc_mapK (fun p : Lv × Lv => D.tup [lvD p.1, lvD p.2]) (fun p : Lv × Lv => lvD (cmb h p.1 p.2)) _ (List.zip A B) (fun p hp => ?_) (by rw [List.length_zip]; unfold lim; omega)
  obtain ⟨a, b⟩ := p
  obtain ⟨m1, m2⟩ := List.of_mem_zip hp
  have ha := hA a m1
  have hb := hB b m2
  refine ⟨⟨[q0, q1, some (.d (.int h)), q3, q4, q5, q6, none, none, none, none, q11, q12, none, some (.d (lvD a)), some (.d (lvD b))], g⟩, ⟨[q0, q1, some (.d (.int h)), q3, q4, q5, q6, none, none, none, none, q11, q12, none, some (.d (lvD a)), some (.d (lvD b))], g⟩, rfl, ?_, rfl⟩
  have hbl := hb.lt
  have hbw := wbn (show h ≤ 64 by omega)
  have c1 : shlC (b.1 : Int) (h : Int) = true := shlC_of (by omega) (by omega) (sm_of (by omega) (by omega))
  have c2 := shl_nn b.1 h
  have c3 := or_nn a.1 (b.1 * 2 ^ h)
  unfold cmb lvD
  simp only
  generalize b.1 * 2 ^ h = e1 at *
  generalize a.1 ||| e1 = e2 at *
  have at1 : ∀ x y : D, atI [x, y] 1 = some y := fun x y => by rw [atI_of (by decide)]; rfl
  simp [e1_routed, c1, c2, c3, at1, lim]
theorem e_routed : ∀ (n k : Nat) (o : List Nat) (g : G), k ≤ n → 1 ≤ n → n ≤ 6 → o.Perm (List.range (2 ^ k)) → Fr_routed n [.lst (iN o), .int ((2 ^ k : Nat) : Int)] g = .ok (.f (.l (lvsD (rN n o (2 ^ k))))) g
  | 0, _, _, _, _, h, _, _ => by omega
  | n + 1, 0, o, g, _, _, _, ho => by
    have e : rN (n + 1) o (2 ^ 0) = [] := by unfold rN; rfl
    rw [e]
    simp [Fr_routed, m_routed, lvsD]
  | n + 1, 1, o, g, _, _, _, ho => by
    have e : rN (n + 1) o (2 ^ 1) = [(if oa o 0 = 1 then 1 else 0, 1)] := by unfold rN; rfl
    rw [e]
    obtain ⟨q1, q2⟩ := ord_at ho (k := 0) (by decide)
    have a1 : atI (iN o) 0 = some (.int (oa o 0 : Nat)) := by
      have := atI_iN q1
      unfold oa
      rw [getD_at q1]
      exact this
    generalize oa o 0 = z at *
    by_cases hz : z = 1
    · subst hz
      simp [Fr_routed, m_routed, a1, lvsD, lvD, lim]
    · have hz' : ¬ (z : Int) = 1 := by omega
      simp [Fr_routed, m_routed, a1, lvsD, lvD, lim, hz, hz']
  | n + 1, k + 2, o, g, hk, _, h6, ho => by
    have hw : 2 ^ (k + 2) = 2 * 2 ^ (k + 1) := by rw [Nat.pow_succ 2 (k + 1), Nat.mul_comm]
    have hpos : 2 ≤ 2 ^ (k + 1) := by rw [Nat.pow_succ]; have := Nat.two_pow_pos k; omega
    have hd : 2 ^ (k + 2) / 2 = 2 ^ (k + 1) := by omega
    have e : rN (n + 1) o (2 ^ (k + 2)) = (mkB (2 ^ (k + 1)) (firstB o (2 ^ (k + 1))), 2 ^ (k + 1)) :: List.zipWith (cmb (2 ^ (k + 1))) (rN n (loN o (2 ^ (k + 1))) (2 ^ (k + 1))) (rN n (upN o (2 ^ (k + 1))) (2 ^ (k + 1))) ++ [(mkB (2 ^ (k + 1)) (lastB o (2 ^ (k + 1))), 2 ^ (k + 1))] := by
      conv => lhs; unfold rN
      rw [if_neg (by omega), if_neg (by omega), hd]
    rw [e]
    rw [hw] at ho ⊢
    have h32 : 2 ^ (k + 1) ≤ 2 ^ 5 := Nat.pow_le_pow_right (by decide) (by omega)
    have hh0 : 0 < 2 ^ (k + 1) := by omega
    have hlo := lo_ord hh0 ho
    have hup := up_ord hh0 ho
    obtain ⟨a1, a2, a3⟩ := rN_ok n (k + 1) (loN o (2 ^ (k + 1))) (by omega) (by omega) hlo
    obtain ⟨b1, b2, b3⟩ := rN_ok n (k + 1) (upN o (2 ^ (k + 1))) (by omega) (by omega) hup
    have r1 := e_routed n (k + 1) (loN o (2 ^ (k + 1))) g (by omega) (by omega) (by omega) hlo
    have r2 := e_routed n (k + 1) (upN o (2 ^ (k + 1))) g (by omega) (by omega) (by omega) hup
    have la : (rN n (loN o (2 ^ (k + 1))) (2 ^ (k + 1))).length = 2 * k + 1 := by
      have := congrArg List.length a2
      rw [List.length_map, stp_len] at this
      exact this
    have lb : (rN n (upN o (2 ^ (k + 1))) (2 ^ (k + 1))).length = 2 * k + 1 := by
      have := congrArg List.length b2
      rw [List.length_map, stp_len] at this
      exact this
    have lp := rt_loop (Fr_routed n) hh0 h32 ho
    have zp := rt_zip (Fr_routed n) h32 a1 b1 (by omega)
    have cl := e_coloured hh0 h32 ho
    have mf := e_mask_of (h := 2 ^ (k + 1)) (by omega) (firstB o (2 ^ (k + 1)))
    have ml := e_mask_of (h := 2 ^ (k + 1)) (by omega) (lastB o (2 ^ (k + 1)))
    generalize 2 ^ (k + 1) = h at *
    have lz : (List.zipWith (cmb h) (rN n (loN o h) h) (rN n (upN o h) h)).length = 2 * k + 1 := by simp [la, lb]
    have lzD := lvsD_len (List.zipWith (cmb h) (rN n (loN o h) h) (rN n (upN o h) h))
    have er : lvsD ((mkB h (firstB o h), h) :: List.zipWith (cmb h) (rN n (loN o h) h) (rN n (upN o h) h) ++ [(mkB h (lastB o h), h)]) = .tup [.int (mkB h (firstB o h) : Nat), .int (h : Nat)] :: (lvsD (List.zipWith (cmb h) (rN n (loN o h) h) (rN n (upN o h) h)) ++ [.tup [.int (mkB h (lastB o h) : Nat), .int (h : Nat)]]) := by
      simp [lvsD, lvD]
    rw [er]
    have hv : ((2 * h : Nat) : Int) / 2 = (h : Int) := by omega
    have n1 : ¬ ((2 * h : Nat) : Int) = 1 := by omega
    have n2 : ¬ ((2 * h : Nat) : Int) = 2 := by omega
    have dv : ∀ i, divC i 2 = true := fun i => divC_of (by decide) (by decide)
    have hb2 : h ≤ 1000000 := by omega
    rw [lz] at lzD
    generalize lvsD (List.zipWith (cmb h) (rN n (loN o h) h) (rN n (upN o h) h)) = Z at *
    generalize lvsD (rN n (loN o h) h) = ZA at *
    generalize lvsD (rN n (upN o h) h) = ZB at *
    generalize mkB h (firstB o h) = F1 at *
    generalize mkB h (lastB o h) = F2 at *
    generalize ((2 * h : Nat) : Int) = W at *
    generalize blL h (firstB o h) = B1 at *
    generalize blL h (lastB o h) = B2 at *
    have hz : 2 * k + 1 + 1 + 1 ≤ lim := by unfold lim; omega
    have hz1 : 1 + (2 * k + 1) ≤ lim := by unfold lim; omega
    have hz2 : 1 + (2 * k + 1) + 1 ≤ lim := by unfold lim; omega
    have hl1 : 1 ≤ lim := by unfold lim; omega
    have hl2 : 2 ≤ lim := by unfold lim; omega
    have hl3 : h ≤ lim := by unfold lim; omega
    simp [Fr_routed, m_routed, n1, n2, hv, dv, cl, rep_iN, lp, r1, r2, zp, mf, ml, lzD, hz, hz1, hz2, hb2, hl1, hl2, hl3]
end Law
namespace Law
open PySem PySem.Spec PyProof.Rows L2 Y
/-! ### levels for an order told -/
def toldN (o : List Nat) (w : Nat) : List Lv := (rN 6 o w).filter fun l => decide (0 < l.1)
theorem sw_zero (s p : Nat) : sw (0, s) p = p := by
  unfold sw
  simp
theorem act_filter : ∀ (ls : List Lv) (p : Nat), act (ls.filter fun l => decide (0 < l.1)) p = act ls p
  | [], _ => rfl
  | l :: ls, p => by
    have ih := act_filter ls p
    by_cases h : 0 < l.1
    · rw [List.filter_cons_of_pos (by simpa using h)]
      show sw l _ = sw l _
      rw [ih]
    · rw [List.filter_cons_of_neg (by simpa using h), ih]
      obtain ⟨m, s⟩ := l
      have : m = 0 := by simpa using h
      subst this
      exact (sw_zero s _).symm
theorem told_ok {k : Nat} (hk : k ≤ 6) {o : List Nat} (ho : o.Perm (List.range (2 ^ k))) : LvsOk (2 ^ k) (toldN o (2 ^ k)) ∧ (toldN o (2 ^ k)).length ≤ 2 * k - 1 ∧ ordL (2 ^ k) (toldN o (2 ^ k)) = o := by
  obtain ⟨a, b, c⟩ := rN_ok 6 k o hk (by decide) ho
  refine ⟨fun l hl => a l (List.mem_filter.mp hl).1, ?_, ?_⟩
  · refine Nat.le_trans (List.length_filter_le ..) ?_
    have := congrArg List.length b
    rw [List.length_map] at this
    cases k with
    | zero => rw [this]; decide
    | succ k => rw [stp_len] at this; omega
  · apply List.ext_getElem
    · rw [ordL_len, ord_len ho]
    · intro i q1 q2
      have hi : i < 2 ^ k := by rwa [ordL_len] at q1
      have := ordL_at (toldN o (2 ^ k)) hi
      rw [getD_at q1] at this
      rw [this]
      unfold toldN
      rw [act_filter, c i hi]
      unfold oa
      rw [getD_at q2]
theorem e_levels_for {k : Nat} (hk : k ≤ 6) {o : List Nat} (ho : o.Perm (List.range (2 ^ k))) (g : G) : F_levels_for [.int ((2 ^ k : Nat) : Int), .tup (iN o)] g = .ok (.d (.tup (lvsD (toldN o (2 ^ k))))) g := by
  have hp : 2 ^ k ≤ 2 ^ 6 := Nat.pow_le_pow_right (by decide) hk
  have hp0 := Nat.two_pow_pos k
  have co := e_check_order (w := 2 ^ k) (by omega) (by omega) ho g
  have hl := ord_len ho
  obtain ⟨a, b, c⟩ := rN_ok 6 k o hk (by decide) ho
  have lr : (rN 6 o (2 ^ k)).length ≤ 100 := by
    have := congrArg List.length b
    rw [List.length_map] at this
    cases k with
    | zero => rw [this]; decide
    | succ k => rw [stp_len] at this; omega
  have er := e_routed 6 k o g hk (by decide) (by decide) ho
  have er' : F_routed [.lst (iN o), .int ((2 ^ k : Nat) : Int)] g = _ := er
  have hb : Builtin.bitAnd ((2 ^ k : Nat) : Int) (((2 ^ k : Nat) : Int) - 1) = 0 := by
    have := Bits.bitAnd_mask (x := ((2 ^ k : Nat) : Int)) k (by omega)
    rw [pcast] at this
    rw [this]
    exact Int.emod_self
  have e := lc_filterK2 (g := gN 2) (mt := t1_levels_for) (me := mKeep (mVar 2)) (own := [2]) (fun l : Lv => decide (0 < l.1)) lvD lvD ⟨[some (.d (.int ((2 ^ k : Nat) : Int))), some (.d (.tup (iN o))), none], g⟩ (rN 6 o (2 ^ k)) (by
    intro l hl
    refine ⟨⟨[some (.d (.int ((2 ^ k : Nat) : Int))), some (.d (.tup (iN o))), some (.d (lvD l))], g⟩, rfl, ?_, fun _ => ?_, rfl⟩
    · unfold lvD
      simp only [t1_levels_for]
      simp
    · unfold lvD
      simp) (by unfold lim; omega)
  have e' : lcL (gN 2) t1_levels_for (mKeep (mVar 2)) [2] (lvsD (rN 6 o (2 ^ k))) [] ⟨[some (.d (.int ((2 ^ k : Nat) : Int))), some (.d (.tup (iN o))), none], g⟩ = .ok (lvsD (toldN o (2 ^ k))) _ := e
  have lt : (lvsD (toldN o (2 ^ k))).length ≤ 1000000 := by
    rw [lvsD_len]
    have := (told_ok hk ho).2.1
    omega
  have li : (iN o).length ≤ 1000000 := by simp [iN]; omega
  generalize lvsD (toldN o (2 ^ k)) = T at *
  generalize lvsD (rN 6 o (2 ^ k)) = R at *
  generalize ((2 ^ k : Nat) : Int) = W at *
  simp [F_levels_for, m_levels_for, co, hb, er', e', lt, li, lim]
/-! ### the law's own -/
theorem e_is_int (i : Int) (g : G) : F__law_is_int [.int i] g = .ok (.d (.bl true)) g := by
  simp [F__law_is_int, m__law_is_int]
theorem e_fits {w : Nat} (h2 : w ≤ 64) {l : Lv} (hl : LvOk w l) (g : G) : F__law_fits [.int w, .int l.1, .int l.2] g = .ok (.d (.bl true)) g := by
  have hs := hl.s2
  have hb := wbn h2
  have hm := hl.lt
  have hh := hl.hi
  have ap := hl.ap
  have s1 := e_size l.2 (by omega) g
  have s2 := e_size w (by omega) g
  obtain ⟨m, s⟩ := l
  simp only at *
  have mc : ∀ j, mulC (m : Int) j = true := fun j => mulC_l (by omega) (by omega)
  have q1 := shl_nn m s
  have hlt : ((m * 2 ^ s : Nat) : Int) < 2 ^ w := by rw [pcast]; exact_mod_cast hh
  generalize m * 2 ^ s = A at *
  have q3 := and_nn m A
  rw [ap] at q3
  simp [F__law_fits, m__law_fits, s1, s2, mc, q1, q3, hlt]
theorem e_law_ex {w : Nat} (h2 : w ≤ 64) {l : Lv} (hl : LvOk w l) (x : Nat) (g : G) : F__law_exchanged [.int x, .int l.1, .int l.2] g = .ok (.d (.int (exN x l : Nat))) g := by
  have hb := wbn h2
  have hs := hl.s2
  have q1 := shr_nn x l.2
  have hc : (((x / 2 ^ l.2) ^^^ x) &&& l.1) ≤ l.1 := Nat.and_le_right
  have hm := hl.lt
  have s1 := e_size l.2 (by omega) g
  have dv : divC (x : Int) (2 ^ l.2) = true := divC_of (two_pos _) (by have := wbnd (show l.2 ≤ 64 by omega); omega)
  unfold exN
  obtain ⟨m, s⟩ := l
  simp only at *
  generalize hA : x / 2 ^ s = A at *
  have q2 := xor_nn A x
  generalize hB : A ^^^ x = B at *
  have q3 := and_nn B m
  generalize hC : B &&& m = C at *
  have q4 := xor_nn x C
  have q5 := shl_nn C s
  have c2 : mulC (C : Int) (2 ^ s) = true := mulC_l (by omega) (by omega)
  generalize hD : x ^^^ C = D2 at *
  generalize hE : C * 2 ^ s = E at *
  have q6 := xor_nn D2 E
  simp [F__law_exchanged, m__law_exchanged, s1, dv, q1, q2, q3, q4, q5, q6, c2]
theorem la_body {w : Nat} (h1 : 1 ≤ w) (h2 : w ≤ 64) {l : Lv} (hl : LvOk w l) (q : Option SV) (g : G) : b1__law_are_levels ⟨[some (.d (.int w)), q, some (.d (lvD l))], g⟩ = .nx ⟨[some (.d (.int w)), q, some (.d (lvD l))], g⟩ := by
  have a1 := e_is_int (l.1 : Int) g
  have a2 := e_is_int (l.2 : Int) g
  have a3 := e_fits h2 hl g
  have s2 := e_size w (by omega) g
  have hs1 := hl.s1
  have hs2 := hl.s2
  have hm := hl.lt
  have hlt : ((l.1 : Nat) : Int) < 2 ^ w := by rw [pcast]; exact_mod_cast hm
  have at1 : ∀ x y : D, atI [x, y] 1 = some y := fun x y => by rw [atI_of (by decide)]; rfl
  unfold lvD
  generalize l.1 = m at *
  generalize l.2 = s at *
  have z1 : (1 : Int) ≤ s := by omega
  have z2 : (s : Int) ≤ w := by omega
  simp [b1__law_are_levels, a1, a2, a3, s2, hlt, hs1, hs2, at1, z1, z2]
theorem la_loop {w : Nat} (h1 : 1 ≤ w) (h2 : w ≤ 64) (q : Option SV) (g : G) : ∀ (ls : List Lv), LvsOk w ls → mForL (gN 2) b1__law_are_levels [2] (lvsD ls) ⟨[some (.d (.int w)), q, none], g⟩ = .nx ⟨[some (.d (.int w)), q, none], g⟩
  | [], _ => rfl
  | l :: ls, h => by
    have ih := la_loop h1 h2 q g ls fun y hy => h y (List.mem_cons_of_mem _ hy)
    have e := la_body h1 h2 (h l List.mem_cons_self) q g
    show mForL _ _ _ (lvD l :: lvsD ls) _ = _
    unfold mForL
    simp only [gN, e, wipeS, List.set_cons_succ, List.set_cons_zero]
    exact ih
theorem e_law_are {w : Nat} (h1 : 1 ≤ w) (h2 : w ≤ 64) {ls : List Lv} (h : LvsOk w ls) (hl : ls.length ≤ 100) (g : G) : F__law_are_levels [.int w, .tup (lvsD ls)] g = .ok (.d (.bl true)) g := by
  have el := la_loop h1 h2 (some (.d (.tup (lvsD ls)))) g ls h
  have hlen := lvsD_len ls
  generalize lvsD ls = L at *
  have hz : ¬ (100 : Int) < (L.length : Int) := by omega
  simp [F__law_are_levels, m__law_are_levels, el, hz]
/-! ### levels drawn -/
theorem mask_loop {w s : Nat} (h2 : w ≤ 64) (hs1 : 1 ≤ s) (hs : s < w) (q2 q3 q4 : Option SV) : ∀ (n k : Nat) (m : Nat) (g : G) (q8 : Option SV), n + k + s = w → m < 2 ^ k → m &&& (m * 2 ^ s) = 0 → HandOk g → ∃ (m' : Nat) (g' : G),
    mForL (gN 7) b1__law_levels [7, 8] ((List.range n).map fun (i : Nat) => D.int ((k + i : Nat) : Int)) ⟨[some (.d (.live 0)), some (.d (.int w)), q2, q3, q4, some (.d (.int s)), some (.d (.int m)), none, none], g⟩ = .nx ⟨[some (.d (.live 0)), some (.d (.int w)), q2, q3, q4, some (.d (.int s)), some (.d (.int m')), none, none], g'⟩ ∧ LvOk w (m', s) ∧ HandOk g'
  | 0, k, m, g, q8, hn, hm, ha, hg => ⟨m, g, rfl, ⟨hs1, by show s ≤ w; omega, by
      show m * 2 ^ s < 2 ^ w
      rw [show w = k + s by omega, Nat.pow_add]
      exact Nat.mul_lt_mul_of_pos_right hm (Nat.two_pow_pos s), ha⟩, hg⟩
  | n + 1, k, m, g, q8, hn, hm, ha, hg => by
    obtain ⟨d, g1, e1, hg1, d0, d1⟩ := draw_ok hg (k := 2) (by decide) (by decide)
    have hb := wbn (show k + 1 ≤ 64 by omega)
    have hp : 2 ^ (k + 1) = 2 * 2 ^ k := by rw [Nat.pow_succ, Nat.mul_comm]
    have s1 := fun g => e_size k (by omega) g
    have s2 := fun g => e_size s (by omega) g
    have hlt : ((m : Nat) : Int) < 2 ^ k := by rw [pcast]; exact_mod_cast hm
    have hi : (List.range (n + 1)).map (fun (i : Nat) => D.int ((k + i : Nat) : Int)) = D.int (k : Int) :: (List.range n).map fun (i : Nat) => D.int ((k + 1 + i : Nat) : Int) := by
      rw [List.range_succ_eq_map, List.map_cons, List.map_map]
      congr 1
      refine List.map_congr_left fun i _ => ?_
      show D.int _ = D.int _
      congr 2
      omega
    have oe : (m : Int) + 2 ^ k = ((m + 2 ^ k : Nat) : Int) := by simp
    have mc : mulC ((m + 2 ^ k : Nat) : Int) (2 ^ s) = true := mulC_l (by omega) (by omega)
    have oe2 := shl_nn (m + 2 ^ k) s
    have an := and_nn (m + 2 ^ k) ((m + 2 ^ k) * 2 ^ s)
    rw [hi]
    by_cases c : d = 0 ∧ (m + 2 ^ k) &&& ((m + 2 ^ k) * 2 ^ s) = 0
    · obtain ⟨c1, c2⟩ := c
      subst c1
      rw [c2] at an
      obtain ⟨m', g', e, r1, r2⟩ := mask_loop h2 hs1 hs q2 q3 q4 n (k + 1) (m + 2 ^ k) g1 none (by omega) (by omega) c2 hg1
      refine ⟨m', g', ?_, r1, r2⟩
      have eb : b1__law_levels ⟨[some (.d (.live 0)), some (.d (.int w)), q2, q3, q4, some (.d (.int s)), some (.d (.int m)), some (.d (.int k)), none], g⟩ = .nx ⟨[some (.d (.live 0)), some (.d (.int w)), q2, q3, q4, some (.d (.int s)), some (.d (.int (m + 2 ^ k : Nat))), some (.d (.int k)), some (.d (.int (m + 2 ^ k : Nat)))], g1⟩ := by
        generalize (m + 2 ^ k) * 2 ^ s = A at *
        generalize m + 2 ^ k = B at *
        simp [b1__law_levels, s1, s2, e1, hlt, oe, mc, oe2, an]
      unfold mForL
      simp only [gN, List.set_cons_succ, List.set_cons_zero, eb, wipeS]
      exact e
    · obtain ⟨m', g', e, r1, r2⟩ := mask_loop h2 hs1 hs q2 q3 q4 n (k + 1) m g1 none (by omega) (by omega) ha hg1
      refine ⟨m', g', ?_, r1, r2⟩
      have eb : b1__law_levels ⟨[some (.d (.live 0)), some (.d (.int w)), q2, q3, q4, some (.d (.int s)), some (.d (.int m)), some (.d (.int k)), none], g⟩ = .nx ⟨[some (.d (.live 0)), some (.d (.int w)), q2, q3, q4, some (.d (.int s)), some (.d (.int m)), some (.d (.int k)), some (.d (.int (m + 2 ^ k : Nat)))], g1⟩ := by
        generalize hA : (m + 2 ^ k) * 2 ^ s = A at *
        generalize hB : m + 2 ^ k = B at *
        by_cases c1 : d = 0
        · have c2 : ¬ B &&& A = 0 := fun z => c ⟨c1, z⟩
          have c3 : ¬ ((B &&& A : Nat) : Int) = 0 := by omega
          subst c1
          simp [b1__law_levels, s1, s2, e1, hlt, oe, mc, oe2, an, c2, c3]
        · simp [b1__law_levels, s1, s2, e1, oe, c1]
      unfold mForL
      simp only [gN, List.set_cons_succ, List.set_cons_zero, eb, wipeS]
      exact e
theorem lev_loop {w : Nat} (h1 : 2 ≤ w) (h2 : w ≤ 64) (q2 : Option SV) : ∀ (items : List D) (ls : List Lv) (g : G), LvsOk w ls → ls.length + items.length ≤ 100 → HandOk g → ∃ (ls' : List Lv) (g' : G),
    mForL (gN 4) b2__law_levels [4, 5, 6, 7, 8] items ⟨[some (.d (.live 0)), some (.d (.int w)), q2, some (.m (.l (lvsD ls))), none, none, none, none, none], g⟩ = .nx ⟨[some (.d (.live 0)), some (.d (.int w)), q2, some (.m (.l (lvsD ls'))), none, none, none, none, none], g'⟩ ∧ LvsOk w ls' ∧ ls'.length ≤ 100 ∧ HandOk g'
  | [], ls, g, hP, hl, hg => ⟨ls, g, rfl, hP, by simpa using hl, hg⟩
  | t :: items, ls, g, hP, hl, hg => by
    rw [List.length_cons] at hl
    obtain ⟨a, g1, e1, hg1, a0, a1⟩ := draw_ok hg (k := (w : Int) - 1) (by omega) (by omega)
    obtain ⟨a, rfl⟩ := Int.eq_ofNat_of_zero_le a0
    obtain ⟨m, g2, e2, hm, hg2⟩ := mask_loop (w := w) (s := 1 + a) h2 (by omega) (by omega) q2 (some (.m (.l (lvsD ls)))) (some (.d t)) (w - (1 + a)) 0 0 g1 none (by omega) (by decide) (by simp) hg1
    obtain ⟨ls', g', e, q1, q5, q6⟩ := lev_loop h1 h2 q2 items (ls ++ [(m, 1 + a)]) g2 (fun l hl => by
      rcases List.mem_append.mp hl with hl | hl
      · exact hP l hl
      · rw [List.mem_singleton] at hl
        subst hl
        exact hm) (by rw [List.length_append, List.length_singleton]; omega) hg2
    refine ⟨ls', g', ?_, q1, q5, q6⟩
    have hr : rgD 0 (w - (1 + a)) = (List.range (w - (1 + a))).map fun (i : Nat) => D.int ((0 + i : Nat) : Int) := by
      unfold rgD
      refine List.map_congr_left fun i _ => ?_
      simp
    rw [← hr] at e2
    have ws : (w : Int) - ((1 + a : Nat) : Int) = ((w - (1 + a) : Nat) : Int) := by omega
    have iw : inR ((w - (1 + a) : Nat) : Int) = true := inR_of (by omega) (by omega)
    have oe : (1 : Int) + (a : Int) = ((1 + a : Nat) : Int) := by omega
    have hll : (lvsD ls).length < 1000000 := by rw [lvsD_len]; omega
    have hap : lvsD ls ++ [.tup [.int (m : Nat), .int ((1 + a : Nat) : Int)]] = lvsD (ls ++ [(m, 1 + a)]) := by simp [lvsD, lvD]
    have eb : b2__law_levels ⟨[some (.d (.live 0)), some (.d (.int w)), q2, some (.m (.l (lvsD ls))), some (.d t), none, none, none, none], g⟩ = .nx ⟨[some (.d (.live 0)), some (.d (.int w)), q2, some (.m (.l (lvsD (ls ++ [(m, 1 + a)])))), some (.d t), some (.d (.int ((1 + a : Nat) : Int))), some (.d (.int m)), none, none], g2⟩ := by
      have e2' : mForL (gN 7) b1__law_levels [7, 8] (rgD 0 (w - (1 + a))) ⟨[some (.d (.live 0)), some (.d (.int w)), q2, some (.m (.l (lvsD ls))), some (.d t), some (.d (.int ((1 + a : Nat) : Int))), some (.d (.int 0)), none, none], g1⟩ = _ := e2
      rw [← hap]
      generalize lvsD ls = L at *
      generalize hz : w - (1 + a) = z at *
      generalize 1 + a = s at *
      simp [b2__law_levels, e1, oe, ws, iw, e2', hll, lim]
    unfold mForL
    simp only [gN, List.set_cons_succ, List.set_cons_zero, eb, wipeS]
    exact e
theorem e_levels {w : Nat} (h1 : 1 ≤ w) (h2 : w ≤ 64) {most : Nat} (hm : most ≤ 50) {g : G} (hg : HandOk g) : ∃ (ls : List Lv) (g' : G), F__law_levels [.live 0, .int w, .int most] g = .ok (.d (.tup (lvsD ls))) g' ∧ LvsOk w ls ∧ ls.length ≤ 100 ∧ HandOk g' := by
  by_cases hw : w = 1
  · subst hw
    refine ⟨[], g, ?_, fun _ h => (nomatch h), by decide, hg⟩
    have i0 : Y.inR 0 = true := inR_of (by decide) (by decide)
    simp [F__law_levels, m__law_levels, i0, rgD, mForL, lvsD]
  · obtain ⟨a, g1, e1, hg1, a0, a1⟩ := draw_ok hg (k := (most : Int) + 1) (by omega) (by omega)
    obtain ⟨a, rfl⟩ := Int.eq_ofNat_of_zero_le a0
    obtain ⟨ls, g2, e, q1, q2, q3⟩ := lev_loop (w := w) (by omega) h2 (some (.d (.int most))) (rgD 0 a) [] g1 (fun _ h => (nomatch h)) (by rw [rgD_len]; simp; omega) hg1
    refine ⟨ls, g2, ?_, q1, q2, q3⟩
    have e' : mForL (gN 4) b2__law_levels [4, 5, 6, 7, 8] (rgD 0 a) ⟨[some (.d (.live 0)), some (.d (.int w)), some (.d (.int most)), some (.m (.l [])), none, none, none, none, none], g1⟩ = _ := e
    have ia : Y.inR (a : Int) = true := inR_of (by omega) (by omega)
    have hw1 : (1 : Int) < (w : Int) := by omega
    have hll : (lvsD ls).length ≤ 1000000 := by rw [lvsD_len]; omega
    generalize lvsD ls = L at *
    simp [F__law_levels, m__law_levels, hw1, e1, ia, e', hll, lim]
end Law
namespace Law
open PySem PySem.Spec PyProof.Rows L2 Y
theorem okD_iN (n : Nat) {o : List Nat} (h : o.length ≤ 1000) : okD (n + 2) (.tup (iN o)) = true := by
  have := okD_ints n (zI o)
  rw [← iN_z] at this
  simp [okD, this, h]
/-! ### levels right -/
theorem lr_row {w : Nat} (h1 : 1 ≤ w) (h2 : w ≤ 64) {l : Lv} (hl : LvOk w l) (q2 q3 q4 q8 q11 : Option SV) {row : List Nat} (hr : row.length = w) (g : G) :
    mForL (gT 2 (gsC (gN 9) (gsC (gN 10) gsN))) b1__law_levels_right [9, 10] (enumD (iN ((List.range w).map (bit l.1)))) ⟨[some (.d (.live 0)), some (.d (.int w)), q2, q3, q4, some (.m (.l (iN row))), some (.d (.int l.1)), some (.d (.int l.2)), q8, none, none, q11], g⟩
    = .nx ⟨[some (.d (.live 0)), some (.d (.int w)), q2, q3, q4, some (.m (.l (iN (rowK w row l w)))), some (.d (.int l.1)), some (.d (.int l.2)), q8, none, none, q11], g⟩ := by
  obtain ⟨st', e, hi⟩ := for_inv (g := gT 2 (gsC (gN 9) (gsC (gN 10) gsN))) (body := b1__law_levels_right) (wp := [9, 10]) (fun k st => k ≤ w → st = ⟨[some (.d (.live 0)), some (.d (.int w)), q2, q3, q4, some (.m (.l (iN (rowK w row l k)))), some (.d (.int l.1)), some (.d (.int l.2)), q8, none, none, q11], g⟩) (enumD (iN ((List.range w).map (bit l.1)))) 0 ⟨[some (.d (.live 0)), some (.d (.int w)), q2, q3, q4, some (.m (.l (iN row))), some (.d (.int l.1)), some (.d (.int l.2)), q8, none, none, q11], g⟩ (fun _ => by rw [rowK_zero hr]) (by
    intro j d st hd hst
    obtain ⟨x, hx, rfl⟩ := enumD_get hd
    rw [iN_at] at hx
    obtain ⟨p, hp, rfl⟩ := Option.map_eq_some_iff.mp hx
    obtain ⟨hj, rfl⟩ := List.getElem?_eq_some_iff.mp hp
    rw [Nat.zero_add] at hst ⊢
    have hj2 : j < w := by simpa using hj
    have e := hst (by omega)
    subst e
    have eo : ((List.range w).map (bit l.1))[j] = bit l.1 j := by simp
    refine ⟨⟨[some (.d (.live 0)), some (.d (.int w)), q2, q3, q4, some (.m (.l (iN (rowK w row l j)))), some (.d (.int l.1)), some (.d (.int l.2)), q8, some (.d (.int j)), some (.d (.int (bit l.1 j : Nat))), q11], g⟩, ⟨[some (.d (.live 0)), some (.d (.int w)), q2, q3, q4, some (.m (.l (iN (rowK w row l (j + 1))))), some (.d (.int l.1)), some (.d (.int l.2)), q8, some (.d (.int j)), some (.d (.int (bit l.1 j : Nat))), q11], g⟩, by rw [eo]; rfl, ?_, fun _ => rfl⟩
    have hb := bit_test l.1 j
    have hlen := rowK_len w row l j
    cases hk : l.1.testBit j with
    | false =>
      rw [rowK_no hk]
      rw [hk] at hb
      rw [hb]
      simp [b1__law_levels_right]
    | true =>
      rw [hk] at hb
      rw [hb]
      have ht := hl.top hk
      have hy := rowK_yes (row := row) hl hk
      rw [← hy]
      generalize rowK w row l j = R at *
      have x1 : atI (iN R) (j : Int) = some (.int (oa R j : Nat)) := by
        rw [atI_iN (by omega)]
        unfold oa
        rw [getD_at (by omega)]
      have x2 : atI (iN R) ((j + l.2 : Nat) : Int) = some (.int (oa R (j + l.2) : Nat)) := by
        rw [atI_iN (by omega)]
        unfold oa
        rw [getD_at (by omega)]
      have x3 : ixN R.length (j : Int) = some j := ixN_nat (by omega)
      have x4 : ixN R.length ((j + l.2 : Nat) : Int) = some (j + l.2) := ixN_nat (by omega)
      have x5 : (j : Int) + (l.2 : Int) = ((j + l.2 : Nat) : Int) := by omega
      have ln : ∀ o : List Nat, (iN o).length = o.length := fun o => by simp [iN]
      generalize oa R j = y1 at *
      generalize oa R (j + l.2) = y2 at *
      generalize j + l.2 = js at *
      simp [b1__law_levels_right, x1, x2, x3, x4, x5, ln, iN_set, lim])
  have hl2 : (enumD (iN ((List.range w).map (bit l.1)))).length = w := by rw [enum_iN]; simp
  rw [hl2, Nat.zero_add] at hi
  have hi := hi (Nat.le_refl _)
  subst hi
  exact e
theorem lr_loop {w : Nat} (h1 : 1 ≤ w) (h2 : w ≤ 64) (q2 q3 q11 : Option SV) (g : G) : ∀ (ls ms : List Lv) (x : Nat), LvsOk w ls → x < 2 ^ w →
    mForL (gT 2 (gsC (gN 6) (gsC (gN 7) gsN))) b2__law_levels_right [6, 7, 8, 9, 10] (lvsD ls) ⟨[some (.d (.live 0)), some (.d (.int w)), q2, q3, some (.d (.int x)), some (.m (.l (iN (ordL w ms)))), none, none, none, none, none, q11], g⟩
    = .nx ⟨[some (.d (.live 0)), some (.d (.int w)), q2, q3, some (.d (.int (ls.foldl exN x : Nat))), some (.m (.l (iN (ordL w (ms ++ ls))))), none, none, none, none, none, q11], g⟩
  | [], ms, x, _, _ => by rw [List.append_nil]; rfl
  | l :: ls, ms, x, h, hx => by
    have hl := h l List.mem_cons_self
    have hx2 := ex_lt hl hx
    have ih := lr_loop h1 h2 q2 q3 q11 g ls (ms ++ [l]) (exN x l) (fun y hy => h y (List.mem_cons_of_mem _ hy)) hx2
    have a1 := e_exchanged h1 h2 hl hx g
    have a2 := e_law_ex h2 hl x g
    have a3 := e_exchanged h1 h2 hl hx2 g
    rw [ex_ex hl] at a3
    have a4 : F__law_is [.int (exN x l : Nat), .int (exN x l : Nat)] g = .ok (.d (.bl true)) g := e_is rfl g
    have a5 := e_bits h2 l.1 g
    have e := lr_row h1 h2 hl q2 q3 (some (.d (.int (exN x l : Nat)))) (some (.d (.int (exN x l : Nat)))) q11 (ordL_len w ms) g
    rw [ordL_snoc hl] at e
    show mForL _ _ _ (lvD l :: lvsD ls) _ = _
    have eg : gT 2 (gsC (gN 6) (gsC (gN 7) gsN)) (lvD l) ⟨[some (.d (.live 0)), some (.d (.int w)), q2, q3, some (.d (.int x)), some (.m (.l (iN (ordL w ms)))), none, none, none, none, none, q11], g⟩ = some ⟨[some (.d (.live 0)), some (.d (.int w)), q2, q3, some (.d (.int x)), some (.m (.l (iN (ordL w ms)))), some (.d (.int l.1)), some (.d (.int l.2)), none, none, none, q11], g⟩ := rfl
    have eb : b2__law_levels_right ⟨[some (.d (.live 0)), some (.d (.int w)), q2, q3, some (.d (.int x)), some (.m (.l (iN (ordL w ms)))), some (.d (.int l.1)), some (.d (.int l.2)), none, none, none, q11], g⟩ = .nx ⟨[some (.d (.live 0)), some (.d (.int w)), q2, q3, some (.d (.int (exN x l : Nat))), some (.m (.l (iN (ordL w (ms ++ [l]))))), some (.d (.int l.1)), some (.d (.int l.2)), some (.d (.int (exN x l : Nat))), none, none, q11], g⟩ := by
      generalize exN x l = y at *
      generalize ordL w (ms ++ [l]) = R2 at *
      generalize (List.range w).map (bit l.1) = BB at *
      simp [b2__law_levels_right, a1, a2, a3, a4, a5, e]
    unfold mForL
    rw [eg]
    simp only [eb, wipeS, List.set_cons_succ, List.set_cons_zero]
    rw [List.append_assoc] at ih
    rw [List.foldl_cons]
    exact ih
theorem e_levels_right {w : Nat} (h1 : 1 ≤ w) (h2 : w ≤ 64) {g : G} (hg : HandOk g) : ∃ g', F__law_levels_right [.live 0, .int w] g = .ok (.d (.bl true)) g' ∧ HandOk g' := by
  obtain ⟨y, g1, e1, hg1, hy⟩ := any_ok (xs := [.int 3, .int 12]) hg (by simp) (by simp)
  have hm : ∃ m : Nat, y = .int m ∧ m ≤ 50 := by
    simp only [List.mem_cons, List.not_mem_nil, or_false] at hy
    rcases hy with rfl | rfl
    · exact ⟨3, rfl, by decide⟩
    · exact ⟨12, rfl, by decide⟩
  obtain ⟨m, rfl, hm⟩ := hm
  obtain ⟨ls, g2, e2, hls, hll, hg2⟩ := e_levels h1 h2 hm hg1
  obtain ⟨x, g3, e3, hg3, hx⟩ := e_word h1 h2 hg2
  refine ⟨g3, ?_, hg3⟩
  have iw : inR (w : Int) = true := inR_of (by omega) (by omega)
  have a1 := e_are_levels h1 h2 hls hll g3
  have lp := fun q2 q3 q11 => lr_loop h1 h2 q2 q3 q11 g3 ls [] x hls hx
  have e0 : ordL w [] = List.range w := by
    unfold ordL
    exact List.map_id' _
  have a2 := e_order_of h1 h2 hls hll g3
  have a3 := e_by_levels h1 h2 hls hll hx g3
  have ho := ordL_ord hls
  have a4 := e_laid h1 h2 ho hx g3
  rw [laid_ordL hls hx] at a4
  have a5 := e_are_for h1 h2 ho hls hll g3
  rw [decide_eq_true rfl] at a5
  have a6 : F__law_is [.lst [.int (ls.foldl exN x : Nat), .tup (iN (ordL w ls))], .lst [.int (ls.foldl exN x : Nat), .tup (iN (ordL w ls))]] g3 = .ok (.d (.bl true)) g3 := e_is (by
    have := okD_iN 3 (o := ordL w ls) (by rw [ordL_len]; omega)
    unfold okD
    simp [this]
    rfl) g3
  have ln : (iN (ordL w ls)).length ≤ 1000000 := by simp [iN, ordL_len]; omega
  have is1 : fIsN true (.bl true) (.bl true) = some (.bl false) := rfl
  have is2 : fIsN false (.bl true) (.bl true) = some (.bl true) := rfl
  rw [e0, List.nil_append] at lp
  generalize ls.foldl exN x = y at *
  generalize ordL w ls = R at *
  generalize lvsD ls = L at *
  simp [F__law_levels_right, m__law_levels_right, e1, e2, e3, iw, iN_range, a1, a2, a3, a4, a5, a6, lp, ln, lim, is1, is2, show w ≤ 16777216 by omega]
/-! ### orders right -/
theorem or_loop {w : Nat} (h1 : 1 ≤ w) (h2 : w ≤ 64) (q2 q3 q4 q5 q9 : Option SV) (g : G) : ∀ (ls : List Lv) (x : Nat), LvsOk w ls → x < 2 ^ w →
    mForL (gT 2 (gsC (gN 7) (gsC (gN 8) gsN))) b1__law_order_right [7, 8] (lvsD ls) ⟨[some (.d (.live 0)), some (.d (.int w)), q2, q3, q4, q5, some (.d (.int x)), none, none, q9], g⟩
    = .nx ⟨[some (.d (.live 0)), some (.d (.int w)), q2, q3, q4, q5, some (.d (.int (ls.foldl exN x : Nat))), none, none, q9], g⟩
  | [], x, _, _ => rfl
  | l :: ls, x, h, hx => by
    have hl := h l List.mem_cons_self
    have ih := or_loop h1 h2 q2 q3 q4 q5 q9 g ls (exN x l) (fun y hy => h y (List.mem_cons_of_mem _ hy)) (ex_lt hl hx)
    have a2 := e_law_ex h2 hl x g
    show mForL _ _ _ (lvD l :: lvsD ls) _ = _
    have eg : gT 2 (gsC (gN 7) (gsC (gN 8) gsN)) (lvD l) ⟨[some (.d (.live 0)), some (.d (.int w)), q2, q3, q4, q5, some (.d (.int x)), none, none, q9], g⟩ = some ⟨[some (.d (.live 0)), some (.d (.int w)), q2, q3, q4, q5, some (.d (.int x)), some (.d (.int l.1)), some (.d (.int l.2)), q9], g⟩ := rfl
    have eb : b1__law_order_right ⟨[some (.d (.live 0)), some (.d (.int w)), q2, q3, q4, q5, some (.d (.int x)), some (.d (.int l.1)), some (.d (.int l.2)), q9], g⟩ = .nx ⟨[some (.d (.live 0)), some (.d (.int w)), q2, q3, q4, q5, some (.d (.int (exN x l : Nat))), some (.d (.int l.1)), some (.d (.int l.2)), q9], g⟩ := by
      generalize exN x l = y at *
      simp [b1__law_order_right, a2]
    unfold mForL
    rw [eg]
    simp only [eb, wipeS, List.set_cons_succ, List.set_cons_zero]
    rw [List.foldl_cons]
    exact ih
theorem log_loop (k : Nat) (hk : k ≤ 6) (q0 q2 q3 q5 q6 q7 q8 q9 : Option SV) (g : G) : mWhile t2__law_order_right b3__law_order_right [] ⟨[q0, some (.d (.int ((2 ^ k : Nat) : Int))), q2, q3, some (.d (.int 0)), q5, q6, q7, q8, q9], g⟩ = .nx ⟨[q0, some (.d (.int ((2 ^ k : Nat) : Int))), q2, q3, some (.d (.int k)), q5, q6, q7, q8, q9], g⟩ := by
  obtain ⟨s, e, hs⟩ := while_ok (mt := t2__law_order_right) (m := b3__law_order_right) (wp := [])
    (fun n st => ∃ j : Nat, n = k - j ∧ j ≤ k ∧ st = ⟨[q0, some (.d (.int ((2 ^ k : Nat) : Int))), q2, q3, some (.d (.int j)), q5, q6, q7, q8, q9], g⟩)
    (fun st => st = ⟨[q0, some (.d (.int ((2 ^ k : Nat) : Int))), q2, q3, some (.d (.int k)), q5, q6, q7, q8, q9], g⟩) (by
      rintro n st ⟨j, rfl, hj, rfl⟩
      have s1 := e_size j (by omega) g
      rw [pcast] at s1
      by_cases c : j = k
      · subst c
        refine .inl ⟨_, ?_, rfl⟩
        generalize ((2 ^ j : Nat) : Int) = W at *
        simp [t2__law_order_right, s1]
      · have hlt : ((2 ^ j : Nat) : Int) < ((2 ^ k : Nat) : Int) := by
          exact_mod_cast Nat.pow_lt_pow_right (by decide) (show j < k by omega)
        refine .inr ⟨⟨[q0, some (.d (.int ((2 ^ k : Nat) : Int))), q2, q3, some (.d (.int j)), q5, q6, q7, q8, q9], g⟩, ⟨[q0, some (.d (.int ((2 ^ k : Nat) : Int))), q2, q3, some (.d (.int ((j + 1 : Nat) : Int))), q5, q6, q7, q8, q9], g⟩, k - (j + 1), ?_, ?_, by omega, j + 1, rfl, by omega, rfl⟩
        · generalize ((2 ^ j : Nat) : Int) = W1 at *
          generalize ((2 ^ k : Nat) : Int) = W2 at *
          simp [t2__law_order_right, s1, hlt]
        · generalize ((2 ^ k : Nat) : Int) = W2 at *
          simp [b3__law_order_right]) (n := k) (by omega) ⟨0, by omega, by omega, rfl⟩
  rw [hs] at e
  exact e
theorem max_log (k : Nat) : max (0 : Int) (2 * (k : Int) - 1) = ((2 * k - 1 : Nat) : Int) := by omega
theorem e_order_right {k : Nat} (hk : k ≤ 6) {o : List Nat} (ho : o.Perm (List.range (2 ^ k))) {g : G} (hg : HandOk g) : ∃ g', F__law_order_right [.live 0, .int ((2 ^ k : Nat) : Int), .tup (iN o)] g = .ok (.d (.bl true)) g' ∧ HandOk g' := by
  have hp : 2 ^ k ≤ 2 ^ 6 := Nat.pow_le_pow_right (by decide) hk
  have hp0 := Nat.two_pow_pos k
  have h1 : 1 ≤ 2 ^ k := hp0
  have h2 : 2 ^ k ≤ 64 := hp
  obtain ⟨x, g1, e1, hg1, hx⟩ := e_word h1 h2 hg
  obtain ⟨o2, g2, e2, hg2, ho2⟩ := e_order_d h1 h2 hg1
  refine ⟨g2, ?_, hg2⟩
  obtain ⟨t1, t2, t3⟩ := told_ok hk ho
  have tl : (toldN o (2 ^ k)).length ≤ 100 := by omega
  have a1 := e_levels_for hk ho g
  have lg := fun q0 q2 q3 q5 q6 q7 q8 q9 => log_loop k hk q0 q2 q3 q5 q6 q7 q8 q9 g
  have a2 := e_law_are h1 h2 t1 tl g
  have lp := fun q2 q3 q4 q5 q9 => or_loop h1 h2 q2 q3 q4 q5 q9 g1 (toldN o (2 ^ k)) x t1 hx
  have a3 := e_law_laid h2 ho x g1
  have hfl : (toldN o (2 ^ k)).foldl exN x = laidN o x := by rw [← laid_ordL t1 hx, t3]
  rw [hfl] at lp
  have a4 := e_order_of h1 h2 t1 tl g1
  rw [t3] at a4
  have a5 := e_are_for h1 h2 ho t1 tl g2
  rw [t3, decide_eq_true rfl] at a5
  have a6 := e_are_for h1 h2 ho2 t1 tl g2
  rw [t3] at a6
  have n1 : fNe (.tup (iN o)) (.tup (iN o)) = some (.bl false) := by
    rw [iN_z, fNe_tupI]
    simp
  have n2 : fEq (.tup (iN o2)) (.tup (iN o)) = some (.bl (decide (zI o = zI o2))) := by
    rw [iN_z, iN_z, fEq_tupI]
    congr 2
    exact decide_eq_decide.mpr eq_comm
  have a7 : ∀ b : Bool, F__law_is [.bl b, .bl b] g2 = .ok (.d (.bl true)) g2 := fun b => e_is (d := .bl b) rfl g2
  have is1 : fIsN true (.bl true) (.bl true) = some (.bl false) := rfl
  have lD := lvsD_len (toldN o (2 ^ k))
  have mx := max_log k
  have m22k : mulC 2 (k : Int) = true := m22 _
  have hn : ¬ (if (1 : Int) < 2 * (k : Int) then 2 * (k : Int) - 1 else 0) < (((lvsD (toldN o (2 ^ k))).length : Nat) : Int) := by
    rw [lD]
    split <;> omega
  generalize laidN o x = y at *
  generalize lvsD (toldN o (2 ^ k)) = T at *
  generalize ((2 ^ k : Nat) : Int) = W at *
  generalize decide (zI o = zI o2) = bb at *
  simp [F__law_order_right, m__law_order_right, a1, lg, a2, e1, lp, a3, a4, e2, a5, a6, a7, n1, n2, is1, mx, m22k, hn]
end Law
namespace Law
open PySem PySem.Spec PyProof.Rows L2 Y
theorem e_known {w : Nat} (h1 : 1 ≤ w) (h2 : w ≤ 64) {s : Str} (hs : s = "mirror" ∨ s = "turn" ∨ s = "evens" ∨ s = "halves") (g : G) : ∃ o, F_known_order [.str s, .int w] g = .ok (.d (.tup (iN o))) g ∧ o.Perm (List.range w) := by
  rcases hs with rfl | rfl | rfl | rfl
  · exact ⟨_, e_mirror h1 h2 g, mir_ord w⟩
  · exact ⟨_, e_turn h1 h2 g, tur_ord h1⟩
  · exact ⟨_, e_evens h1 h2 g, ev_ord w⟩
  · exact ⟨_, e_halves h1 h2 g, back_ord (ev_ord w)⟩
theorem law_loop (a : D) : ∀ (items : List D) (g : G), HandOk g → ∃ g', mForL (gN 2) b2_law [2, 3, 4, 5] items ⟨[some (.d a), some (.d (.live 0)), none, none, none, none, none], g⟩ = .nx ⟨[some (.d a), some (.d (.live 0)), none, none, none, none, none], g'⟩ ∧ HandOk g'
  | [], g, hg => ⟨g, rfl, hg⟩
  | t :: items, g, hg => by
    obtain ⟨w, g1, e1, hg1, h1, h2⟩ := e_width hg
    obtain ⟨g2, e2, hg2⟩ := e_levels_right h1 h2 hg1
    obtain ⟨y, g3, e3, hg3, hy⟩ := any_ok (xs := [.int 1, .int 2, .int 4, .int 8, .int 16, .int 32, .int 64]) hg2 (by simp) (by simp)
    have hk : ∃ k : Nat, y = .int ((2 ^ k : Nat) : Int) ∧ k ≤ 6 := by
      simp only [List.mem_cons, List.not_mem_nil, or_false] at hy
      rcases hy with rfl | rfl | rfl | rfl | rfl | rfl | rfl
      · exact ⟨0, rfl, by decide⟩
      · exact ⟨1, rfl, by decide⟩
      · exact ⟨2, rfl, by decide⟩
      · exact ⟨3, rfl, by decide⟩
      · exact ⟨4, rfl, by decide⟩
      · exact ⟨5, rfl, by decide⟩
      · exact ⟨6, rfl, by decide⟩
    obtain ⟨k, rfl, hk⟩ := hk
    have hp : 2 ^ k ≤ 2 ^ 6 := Nat.pow_le_pow_right (by decide) hk
    have hp0 := Nat.two_pow_pos k
    obtain ⟨z, g4, e4, hg4, hz⟩ := any_ok (xs := [.str "mirror", .str "turn", .str "evens", .str "halves"]) hg3 (by simp) (by simp)
    have hs : ∃ s : Str, z = .str s ∧ (s = "mirror" ∨ s = "turn" ∨ s = "evens" ∨ s = "halves") := by
      simp only [List.mem_cons, List.not_mem_nil, or_false] at hz
      rcases hz with rfl | rfl | rfl | rfl
      · exact ⟨_, rfl, .inl rfl⟩
      · exact ⟨_, rfl, .inr (.inl rfl)⟩
      · exact ⟨_, rfl, .inr (.inr (.inl rfl))⟩
      · exact ⟨_, rfl, .inr (.inr (.inr rfl))⟩
    obtain ⟨s, rfl, hs⟩ := hs
    obtain ⟨o1, g5, e5, hg5, ho1⟩ := e_order_d (w := 2 ^ k) hp0 hp hg4
    obtain ⟨o2, e6, ho2⟩ := e_known (w := 2 ^ k) hp0 hp hs g5
    obtain ⟨g6, e7, hg6⟩ := e_order_right hk ho1 hg5
    obtain ⟨g7, e8, hg7⟩ := e_order_right hk ho2 hg6
    obtain ⟨g8, e9, hg8⟩ := law_loop a items g7 hg7
    refine ⟨g8, ?_, hg8⟩
    have eb : b2_law ⟨[some (.d a), some (.d (.live 0)), some (.d t), none, none, none, none], g⟩ = .nx ⟨[some (.d a), some (.d (.live 0)), some (.d t), some (.d (.int ((2 ^ k : Nat) : Int))), some (.d (.str s)), none, none], g7⟩ := by
      generalize ((2 ^ k : Nat) : Int) = W at *
      clear hs
      simp [b2_law, b1_law, e1, e2, e3, e4, e5, e6, e7, e8, lim, mForL]
    unfold mForL
    simp only [gN, List.set_cons_succ, List.set_cons_zero, eb, wipeS]
    exact e9
theorem lv4 : LvsOk 4 [(5, 1), (3, 2)] := fun l hl => by
  simp only [List.mem_cons, List.not_mem_nil, or_false] at hl
  rcases hl with rfl | rfl
  · exact ⟨by decide, by decide, by decide, by decide⟩
  · exact ⟨by decide, by decide, by decide, by decide⟩
theorem k_ex (g : G) : F_exchanged [.int 8, .int 178, .int 5, .int 4] g = .ok (.d (.int 163)) g := by
  have := e_exchanged (w := 8) (by decide) (by decide) (l := (5, 4)) ⟨by decide, by decide, by decide, by decide⟩ (x := 178) (by decide) g
  rw [show exN 178 (5, 4) = 163 by decide +kernel] at this
  exact this
theorem k_ord (g : G) : F_order_of_levels [.int 4, .tup [.tup [.int 5, .int 1], .tup [.int 3, .int 2]]] g = .ok (.d (.tup [.int 3, .int 2, .int 1, .int 0])) g := by
  have := e_order_of (w := 4) (by decide) (by decide) lv4 (by decide) g
  rw [show ordL 4 [(5, 1), (3, 2)] = [3, 2, 1, 0] by decide +kernel] at this
  exact this
theorem k_by (g : G) : F_by_levels [.int 4, .tup [.tup [.int 5, .int 1], .tup [.int 3, .int 2]], .int 2] g = .ok (.d (.int 4)) g := by
  have := e_by_levels (w := 4) (by decide) (by decide) lv4 (by decide) (x := 2) (by decide) g
  rw [show [(5, 1), (3, 2)].foldl exN 2 = 4 by decide +kernel] at this
  exact this
theorem k_is (g : G) : F__law_is [.lst [.int 163, .tup [.int 3, .int 2, .int 1, .int 0], .int 4], .lst [.int 163, .tup [.int 3, .int 2, .int 1, .int 0], .int 4]] g = .ok (.d (.bl true)) g := e_is (by decide) g
theorem seq_of {a b : MoS} {st st' : MS} {r : RSt} (h : a st = .nx st') (k : b st' = r) : mSeq a b st = r := by
  unfold mSeq
  rw [h]
  exact k
theorem main_aux (f1 f2 f3 f7 f10 : Fm) (bd : MoS) (ns : List Int) (x1 x2 x3 x4 x5 : D) (g1 : G)
  (e0 : f7 [D.scr ns] [] = Rc.ok (RV.f (Fr.l [x1, x2, x3, x4, x5])) [])
  (e1 : mForL (gN 2) bd [2, 3, 4, 5] (rgD 0 5) ⟨[some (.d (.scr ns)), some (.d (.live 0)), none, none, none, none, none], [.l [x1, x2, x3, x4, x5]]⟩ = .nx ⟨[some (.d (.scr ns)), some (.d (.live 0)), none, none, none, none, none], g1⟩)
  (a1 : ∀ g, f1 [.int 8, .int 178, .int 5, .int 4] g = .ok (.d (.int 163)) g)
  (a2 : ∀ g, f2 [.int 4, .tup [.tup [.int 5, .int 1], .tup [.int 3, .int 2]]] g = .ok (.d (.tup [.int 3, .int 2, .int 1, .int 0])) g)
  (a3 : ∀ g, f3 [.int 4, .tup [.tup [.int 5, .int 1], .tup [.int 3, .int 2]], .int 2] g = .ok (.d (.int 4)) g)
  (a5 : ∀ g, f10 [.lst [.int 163, .tup [.int 3, .int 2, .int 1, .int 0], .int 4], .lst [.int 163, .tup [.int 3, .int 2, .int 1, .int 0], .int 4]] g = .ok (.d (.bl true)) g) :
  (mSeq (mSet 1 (mX (mLive (mCall f7 (mCons (mKeep (mVar 0)) mNil)))))
    (mSeq (mFor (mRg1 (mCons (mKeep (mC (.int 5))) mNil)) (gN 2)
    bd [2, 3, 4, 5])
    (mSeq (mSet 6 (mLst (mCons (mKeepX (mCall f1 (mCons (mKeep (mC (.int 8))) (mCons (mKeep (mC (.int 178))) (mCons (mKeep (mC (.int 5))) (mCons (mKeep (mC (.int 4))) mNil)))))) (mCons (mKeepX (mCall f2 (mCons (mKeep (mC (.int 4))) (mCons (mKeep (mTup (mCons (mKeep (mTup (mCons (mKeep (mC (.int 5))) (mCons (mKeep (mC (.int 1))) mNil)))) (mCons (mKeep (mTup (mCons (mKeep (mC (.int 3))) (mCons (mKeep (mC (.int 2))) mNil)))) mNil)))) mNil)))) (mCons (mKeepX (mCall f3 (mCons (mKeep (mC (.int 4))) (mCons (mKeep (mTup (mCons (mKeep (mTup (mCons (mKeep (mC (.int 5))) (mCons (mKeep (mC (.int 1))) mNil)))) (mCons (mKeep (mTup (mCons (mKeep (mC (.int 3))) (mCons (mKeep (mC (.int 2))) mNil)))) mNil)))) (mCons (mKeep (mC (.int 2))) mNil))))) mNil)))))
    (mRet (mCall f10 (mCons (mKeep (mVar 6)) (mCons (mKeepX (mLst (mCons (mKeep (mC (.int 163))) (mCons (mKeep (mTup (mCons (mKeep (mC (.int 3))) (mCons (mKeep (mC (.int 2))) (mCons (mKeep (mC (.int 1))) (mCons (mKeep (mC (.int 0))) mNil)))))) (mCons (mKeep (mC (.int 4))) mNil))))) mNil))))))) ⟨startS 7 [.scr ns], []⟩ = .rt (.d (.bl true)) g1 := by
  have i5 : Y.inR 5 = true := inR_of (by decide) (by decide)
  refine seq_of (st' := ⟨[some (.d (.scr ns)), some (.d (.live 0)), none, none, none, none, none], [.l [x1, x2, x3, x4, x5]]⟩) (by simp [e0]) ?_
  refine seq_of (st' := ⟨[some (.d (.scr ns)), some (.d (.live 0)), none, none, none, none, none], g1⟩) (by simp [i5, e1]) ?_
  simp [a1, a2, a3, a5, lim]
theorem main (ns : List Int) (h : ns.length ≤ 63) : ∃ g, fnM 7 m_law [.scr ns] [] = .ok (.d (.bl true)) g := by
  obtain ⟨cs, m, e0, hc⟩ := hand_ok h []
  have hg0 : HandOk [.l [.lst (cellsOf cs), .int 0, .int 0, .int m, .int 0]] := ⟨cs, 0, 0, m, 0, rfl, hc, by decide, by decide⟩
  obtain ⟨g1, e1, hg1⟩ := law_loop (.scr ns) (rgD 0 5) _ hg0
  have e := main_aux F_exchanged F_order_of_levels F_by_levels F__law_hand F__law_is b2_law ns _ _ _ _ _ g1 e0 e1 k_ex k_ord k_by k_is
  refine ⟨g1, ?_⟩
  unfold fnM m_law
  rw [e]
end Law
namespace Law
open PySem PySem.Spec PyProof.Rows L2 Y
theorem all_ok {P : Program} {w : World} {K : PySem.W.Frag} {mg : Str → Option Value} {base : Heap} {fa : Addr} {fd : FuncData} (Z : Zs K mg) (D_is_integer : DefAt K mg "is_integer" s_is_integer ["thing"]) (D_is_within : DefAt K mg "is_within" s_is_within ["thing", "low", "high"]) (D_is_tuple_of : DefAt K mg "is_tuple_of" s_is_tuple_of ["thing", "many"]) (D_are_integers : DefAt K mg "are_integers" s_are_integers ["thing"]) (D_check_width : DefAt K mg "check_width" s_check_width ["width"]) (D_is_word : DefAt K mg "is_word" s_is_word ["width", "thing"]) (D_check_word : DefAt K mg "check_word" s_check_word ["width", "word"]) (D_is_order : DefAt K mg "is_order" s_is_order ["width", "thing"]) (D_check_order : DefAt K mg "check_order" s_check_order ["width", "order"]) (D_laid_of : DefAt K mg "laid_of" s_laid_of ["order", "word"]) (D_laid : DefAt K mg "laid" s_laid ["width", "order", "word"]) (D_check_swap : DefAt K mg "check_swap" s_check_swap ["width", "mask", "steps"]) (D_swapped : DefAt K mg "swapped" s_swapped ["word", "mask", "steps"]) (D_exchanged : DefAt K mg "exchanged" s_exchanged ["width", "word", "mask", "steps"]) (D_coloured : DefAt K mg "coloured" s_coloured ["order", "half"]) (D_mask_of : DefAt K mg "mask_of" s_mask_of ["flags"]) (D_routed : DefAt K mg "routed" s_routed ["order", "width"]) (D_levels_for : DefAt K mg "levels_for" s_levels_for ["width", "order"]) (D_are_levels : DefAt K mg "are_levels" s_are_levels ["width", "thing"]) (D_order_of_levels : DefAt K mg "order_of_levels" s_order_of_levels ["width", "levels"]) (D_by_levels : DefAt K mg "by_levels" s_by_levels ["width", "levels", "word"]) (D_are_levels_for : DefAt K mg "are_levels_for" s_are_levels_for ["width", "order", "thing"]) (D_known_order : DefAt K mg "known_order" s_known_order ["word", "width"]) (D__law_hand : DefAt K mg "_law_hand" s__law_hand ["script"]) (D__law_draw : DefAt K mg "_law_draw" s__law_draw ["hand", "many"]) (D__law_any : DefAt K mg "_law_any" s__law_any ["hand", "some"]) (D__law_shuffled : DefAt K mg "_law_shuffled" s__law_shuffled ["hand", "some"]) (D__law_is : DefAt K mg "_law_is" s__law_is ["said", "due"]) (D__law_is_int : DefAt K mg "_law_is_int" s__law_is_int ["thing"]) (D__law_size : DefAt K mg "_law_size" s__law_size ["width"]) (D__law_width : DefAt K mg "_law_width" s__law_width ["hand"]) (D__law_word : DefAt K mg "_law_word" s__law_word ["hand", "width"]) (D__law_bits : DefAt K mg "_law_bits" s__law_bits ["width", "word"]) (D__law_number : DefAt K mg "_law_number" s__law_number ["bits"]) (D__law_order : DefAt K mg "_law_order" s__law_order ["hand", "width"]) (D__law_laid : DefAt K mg "_law_laid" s__law_laid ["width", "order", "word"]) (D__law_fits : DefAt K mg "_law_fits" s__law_fits ["width", "mask", "steps"]) (D__law_levels : DefAt K mg "_law_levels" s__law_levels ["hand", "width", "most"]) (D__law_exchanged : DefAt K mg "_law_exchanged" s__law_exchanged ["word", "mask", "steps"]) (D__law_are_levels : DefAt K mg "_law_are_levels" s__law_are_levels ["width", "thing"]) (D__law_levels_right : DefAt K mg "_law_levels_right" s__law_levels_right ["hand", "width"]) (D__law_order_right : DefAt K mg "_law_order_right" s__law_order_right ["hand", "width", "order"]) (FL : Fun K "law" "law" s_law fa fd) : FnOk P w K mg base (L2.CX P w) 11 fa fd ["script"] (spLaw K []) := by
  have G_is_integer := cal_is_integer (T := []) (P := P) (w := w) (base := base) D_is_integer Z 
  have G_is_within := cal_is_within (T := []) (P := P) (w := w) (base := base) D_is_within Z G_is_integer
  have G_is_tuple_of := cal_is_tuple_of (T := []) (P := P) (w := w) (base := base) D_is_tuple_of Z 
  have G_are_integers := cal_are_integers (T := []) (P := P) (w := w) (base := base) D_are_integers Z G_is_integer
  have G_check_width := cal_check_width (T := []) (P := P) (w := w) (base := base) D_check_width Z G_is_within
  have G_is_word := cal_is_word (T := []) (P := P) (w := w) (base := base) D_is_word Z G_is_within G_check_width
  have G_check_word := cal_check_word (T := []) (P := P) (w := w) (base := base) D_check_word Z G_is_word
  have G_is_order := cal_is_order (T := []) (P := P) (w := w) (base := base) D_is_order Z G_are_integers G_check_width
  have G_check_order := cal_check_order (T := []) (P := P) (w := w) (base := base) D_check_order Z G_is_order
  have G_laid_of := cal_laid_of (T := []) (P := P) (w := w) (base := base) D_laid_of Z 
  have G_laid := cal_laid (T := []) (P := P) (w := w) (base := base) D_laid Z G_laid_of G_check_word G_check_order
  have G_check_swap := cal_check_swap (T := []) (P := P) (w := w) (base := base) D_check_swap Z G_is_within
  have G_swapped := cal_swapped (T := []) (P := P) (w := w) (base := base) D_swapped Z 
  have G_exchanged := cal_exchanged (T := []) (P := P) (w := w) (base := base) D_exchanged Z G_swapped G_check_swap G_check_word
  have G_coloured := cal_coloured (T := []) (P := P) (w := w) (base := base) D_coloured Z 
  have G_mask_of := cal_mask_of (T := []) (P := P) (w := w) (base := base) D_mask_of Z 
  have G_routed := cal_routed (T := []) (P := P) (w := w) (base := base) D_routed Z G_mask_of G_coloured
  have G_levels_for := cal_levels_for (T := []) (P := P) (w := w) (base := base) D_levels_for Z G_routed G_check_order
  have G_are_levels := cal_are_levels (T := []) (P := P) (w := w) (base := base) D_are_levels Z G_is_within G_is_tuple_of G_check_width
  have G_order_of_levels := cal_order_of_levels (T := []) (P := P) (w := w) (base := base) D_order_of_levels Z G_are_levels
  have G_by_levels := cal_by_levels (T := []) (P := P) (w := w) (base := base) D_by_levels Z G_swapped G_are_levels G_check_word
  have G_are_levels_for := cal_are_levels_for (T := []) (P := P) (w := w) (base := base) D_are_levels_for Z G_are_levels G_order_of_levels G_check_order
  have G_known_order := cal_known_order (T := []) (P := P) (w := w) (base := base) D_known_order Z G_check_width
  have G__law_hand := cal__law_hand (T := []) (P := P) (w := w) (base := base) D__law_hand Z 
  have G__law_draw := cal__law_draw (T := []) (P := P) (w := w) (base := base) D__law_draw Z 
  have G__law_any := cal__law_any (T := []) (P := P) (w := w) (base := base) D__law_any Z G__law_draw
  have G__law_shuffled := cal__law_shuffled (T := []) (P := P) (w := w) (base := base) D__law_shuffled Z G__law_draw
  have G__law_is := cal__law_is (T := []) (P := P) (w := w) (base := base) D__law_is Z 
  have G__law_is_int := cal__law_is_int (T := []) (P := P) (w := w) (base := base) D__law_is_int Z 
  have G__law_size := cal__law_size (T := []) (P := P) (w := w) (base := base) D__law_size Z 
  have G__law_width := cal__law_width (T := []) (P := P) (w := w) (base := base) D__law_width Z G__law_any G__law_draw
  have G__law_word := cal__law_word (T := []) (P := P) (w := w) (base := base) D__law_word Z G__law_any G__law_draw G__law_size
  have G__law_bits := cal__law_bits (T := []) (P := P) (w := w) (base := base) D__law_bits Z 
  have G__law_number := cal__law_number (T := []) (P := P) (w := w) (base := base) D__law_number Z 
  have G__law_order := cal__law_order (T := []) (P := P) (w := w) (base := base) D__law_order Z G__law_draw G__law_shuffled
  have G__law_laid := cal__law_laid (T := []) (P := P) (w := w) (base := base) D__law_laid Z G__law_number G__law_bits
  have G__law_fits := cal__law_fits (T := []) (P := P) (w := w) (base := base) D__law_fits Z G__law_size
  have G__law_levels := cal__law_levels (T := []) (P := P) (w := w) (base := base) D__law_levels Z G__law_draw G__law_size
  have G__law_exchanged := cal__law_exchanged (T := []) (P := P) (w := w) (base := base) D__law_exchanged Z G__law_size
  have G__law_are_levels := cal__law_are_levels (T := []) (P := P) (w := w) (base := base) D__law_are_levels Z G__law_size G__law_fits G__law_is_int
  have G__law_levels_right := cal__law_levels_right (T := []) (P := P) (w := w) (base := base) D__law_levels_right Z G_laid G_are_levels_for G__law_is G_by_levels G_order_of_levels G__law_bits G__law_exchanged G_exchanged G_are_levels G__law_levels G__law_any G__law_word
  have G__law_order_right := cal__law_order_right (T := []) (P := P) (w := w) (base := base) D__law_order_right Z G__law_is G_are_levels_for G__law_order G__law_laid G_order_of_levels G__law_exchanged G__law_word G__law_are_levels G__law_size G_levels_for
  exact law_ok FL sc_law (by decide) (k := 10) (m := m_law) (fun cdv A outer s H B E hr nd => body_law Z G__law_is G_exchanged G_order_of_levels G_by_levels G__law_order G_known_order G__law_order_right G__law_any G__law_levels_right G__law_width G__law_hand fa cdv A outer s H B E hr nd) main
end Law
open PySem PySem.W PyProof.Rows
set_option maxHeartbeats 0 in
theorem PySem.Challenge.cw_wordhouse_k75_whole_levels_holds : PySem.Challenge.rw_wordhouse_k75_whole_levels.Holds := by
  w_on; o_law; k_head; (case hw => w_witness2)
  k_fill
  refine L2.walk_of (l := PySem.Challenge.rw_wordhouse_k75_whole_levels) (n := 63) (k := 11) (x := "script") (CX := fun w => L2.CX (PySem.Challenge.rw_wordhouse_k75_whole_levels).prog w) (sp := fun w => Y.spLaw _ []) rfl (by decide) rfl ⟨rfl, by decide, by decide⟩ (fun w h Y => PySem.W.kIn_of Y) ?F (fun _ _ a ns hl _ hS => ⟨a, ns, rfl, hS, hl, fun _ h => (nomatch h), fun _ => rfl⟩) (fun w H s e s' h => Y.cx_no w H s e s' h)
  case F =>
    intro w mg fa h KX G hmg
    have D_is_integer : Y.DefAt (L2.KOf KX) mg "is_integer" Law.s_is_integer ["thing"] := by
      refine' Y.def_at KX G (x := "is_integer") Law.s_is_integer ["thing"] ?a ?l ?c ?k (fun _ _ _ _ _ _ us hl => match us, hl with | [_], _ => rfl)
      (case a => k_is); (case l => k_is); (case c => k_is); (case k => k_is)
    have D_is_within : Y.DefAt (L2.KOf KX) mg "is_within" Law.s_is_within ["thing", "low", "high"] := by
      refine' Y.def_at KX G (x := "is_within") Law.s_is_within ["thing", "low", "high"] ?a ?l ?c ?k (fun _ _ _ _ _ _ us hl => match us, hl with | [_, _, _], _ => rfl)
      (case a => k_is); (case l => k_is); (case c => k_is); (case k => k_is)
    have D_is_tuple_of : Y.DefAt (L2.KOf KX) mg "is_tuple_of" Law.s_is_tuple_of ["thing", "many"] := by
      refine' Y.def_at KX G (x := "is_tuple_of") Law.s_is_tuple_of ["thing", "many"] ?a ?l ?c ?k (fun _ _ _ _ _ _ us hl => match us, hl with | [_, _], _ => rfl)
      (case a => k_is); (case l => k_is); (case c => k_is); (case k => k_is)
    have D_are_integers : Y.DefAt (L2.KOf KX) mg "are_integers" Law.s_are_integers ["thing"] := by
      refine' Y.def_at KX G (x := "are_integers") Law.s_are_integers ["thing"] ?a ?l ?c ?k (fun _ _ _ _ _ _ us hl => match us, hl with | [_], _ => rfl)
      (case a => k_is); (case l => k_is); (case c => k_is); (case k => k_is)
    have D_check_width : Y.DefAt (L2.KOf KX) mg "check_width" Law.s_check_width ["width"] := by
      refine' Y.def_at KX G (x := "check_width") Law.s_check_width ["width"] ?a ?l ?c ?k (fun _ _ _ _ _ _ us hl => match us, hl with | [_], _ => rfl)
      (case a => k_is); (case l => k_is); (case c => k_is); (case k => k_is)
    have D_is_word : Y.DefAt (L2.KOf KX) mg "is_word" Law.s_is_word ["width", "thing"] := by
      refine' Y.def_at KX G (x := "is_word") Law.s_is_word ["width", "thing"] ?a ?l ?c ?k (fun _ _ _ _ _ _ us hl => match us, hl with | [_, _], _ => rfl)
      (case a => k_is); (case l => k_is); (case c => k_is); (case k => k_is)
    have D_check_word : Y.DefAt (L2.KOf KX) mg "check_word" Law.s_check_word ["width", "word"] := by
      refine' Y.def_at KX G (x := "check_word") Law.s_check_word ["width", "word"] ?a ?l ?c ?k (fun _ _ _ _ _ _ us hl => match us, hl with | [_, _], _ => rfl)
      (case a => k_is); (case l => k_is); (case c => k_is); (case k => k_is)
    have D_is_order : Y.DefAt (L2.KOf KX) mg "is_order" Law.s_is_order ["width", "thing"] := by
      refine' Y.def_at KX G (x := "is_order") Law.s_is_order ["width", "thing"] ?a ?l ?c ?k (fun _ _ _ _ _ _ us hl => match us, hl with | [_, _], _ => rfl)
      (case a => k_is); (case l => k_is); (case c => k_is); (case k => k_is)
    have D_check_order : Y.DefAt (L2.KOf KX) mg "check_order" Law.s_check_order ["width", "order"] := by
      refine' Y.def_at KX G (x := "check_order") Law.s_check_order ["width", "order"] ?a ?l ?c ?k (fun _ _ _ _ _ _ us hl => match us, hl with | [_, _], _ => rfl)
      (case a => k_is); (case l => k_is); (case c => k_is); (case k => k_is)
    have D_laid_of : Y.DefAt (L2.KOf KX) mg "laid_of" Law.s_laid_of ["order", "word"] := by
      refine' Y.def_at KX G (x := "laid_of") Law.s_laid_of ["order", "word"] ?a ?l ?c ?k (fun _ _ _ _ _ _ us hl => match us, hl with | [_, _], _ => rfl)
      (case a => k_is); (case l => k_is); (case c => k_is); (case k => k_is)
    have D_laid : Y.DefAt (L2.KOf KX) mg "laid" Law.s_laid ["width", "order", "word"] := by
      refine' Y.def_at KX G (x := "laid") Law.s_laid ["width", "order", "word"] ?a ?l ?c ?k (fun _ _ _ _ _ _ us hl => match us, hl with | [_, _, _], _ => rfl)
      (case a => k_is); (case l => k_is); (case c => k_is); (case k => k_is)
    have D_check_swap : Y.DefAt (L2.KOf KX) mg "check_swap" Law.s_check_swap ["width", "mask", "steps"] := by
      refine' Y.def_at KX G (x := "check_swap") Law.s_check_swap ["width", "mask", "steps"] ?a ?l ?c ?k (fun _ _ _ _ _ _ us hl => match us, hl with | [_, _, _], _ => rfl)
      (case a => k_is); (case l => k_is); (case c => k_is); (case k => k_is)
    have D_swapped : Y.DefAt (L2.KOf KX) mg "swapped" Law.s_swapped ["word", "mask", "steps"] := by
      refine' Y.def_at KX G (x := "swapped") Law.s_swapped ["word", "mask", "steps"] ?a ?l ?c ?k (fun _ _ _ _ _ _ us hl => match us, hl with | [_, _, _], _ => rfl)
      (case a => k_is); (case l => k_is); (case c => k_is); (case k => k_is)
    have D_exchanged : Y.DefAt (L2.KOf KX) mg "exchanged" Law.s_exchanged ["width", "word", "mask", "steps"] := by
      refine' Y.def_at KX G (x := "exchanged") Law.s_exchanged ["width", "word", "mask", "steps"] ?a ?l ?c ?k (fun _ _ _ _ _ _ us hl => match us, hl with | [_, _, _, _], _ => rfl)
      (case a => k_is); (case l => k_is); (case c => k_is); (case k => k_is)
    have D_coloured : Y.DefAt (L2.KOf KX) mg "coloured" Law.s_coloured ["order", "half"] := by
      refine' Y.def_at KX G (x := "coloured") Law.s_coloured ["order", "half"] ?a ?l ?c ?k (fun _ _ _ _ _ _ us hl => match us, hl with | [_, _], _ => rfl)
      (case a => k_is); (case l => k_is); (case c => k_is); (case k => k_is)
    have D_mask_of : Y.DefAt (L2.KOf KX) mg "mask_of" Law.s_mask_of ["flags"] := by
      refine' Y.def_at KX G (x := "mask_of") Law.s_mask_of ["flags"] ?a ?l ?c ?k (fun _ _ _ _ _ _ us hl => match us, hl with | [_], _ => rfl)
      (case a => k_is); (case l => k_is); (case c => k_is); (case k => k_is)
    have D_routed : Y.DefAt (L2.KOf KX) mg "routed" Law.s_routed ["order", "width"] := by
      refine' Y.def_at KX G (x := "routed") Law.s_routed ["order", "width"] ?a ?l ?c ?k (fun _ _ _ _ _ _ us hl => match us, hl with | [_, _], _ => rfl)
      (case a => k_is); (case l => k_is); (case c => k_is); (case k => k_is)
    have D_levels_for : Y.DefAt (L2.KOf KX) mg "levels_for" Law.s_levels_for ["width", "order"] := by
      refine' Y.def_at KX G (x := "levels_for") Law.s_levels_for ["width", "order"] ?a ?l ?c ?k (fun _ _ _ _ _ _ us hl => match us, hl with | [_, _], _ => rfl)
      (case a => k_is); (case l => k_is); (case c => k_is); (case k => k_is)
    have D_are_levels : Y.DefAt (L2.KOf KX) mg "are_levels" Law.s_are_levels ["width", "thing"] := by
      refine' Y.def_at KX G (x := "are_levels") Law.s_are_levels ["width", "thing"] ?a ?l ?c ?k (fun _ _ _ _ _ _ us hl => match us, hl with | [_, _], _ => rfl)
      (case a => k_is); (case l => k_is); (case c => k_is); (case k => k_is)
    have D_order_of_levels : Y.DefAt (L2.KOf KX) mg "order_of_levels" Law.s_order_of_levels ["width", "levels"] := by
      refine' Y.def_at KX G (x := "order_of_levels") Law.s_order_of_levels ["width", "levels"] ?a ?l ?c ?k (fun _ _ _ _ _ _ us hl => match us, hl with | [_, _], _ => rfl)
      (case a => k_is); (case l => k_is); (case c => k_is); (case k => k_is)
    have D_by_levels : Y.DefAt (L2.KOf KX) mg "by_levels" Law.s_by_levels ["width", "levels", "word"] := by
      refine' Y.def_at KX G (x := "by_levels") Law.s_by_levels ["width", "levels", "word"] ?a ?l ?c ?k (fun _ _ _ _ _ _ us hl => match us, hl with | [_, _, _], _ => rfl)
      (case a => k_is); (case l => k_is); (case c => k_is); (case k => k_is)
    have D_are_levels_for : Y.DefAt (L2.KOf KX) mg "are_levels_for" Law.s_are_levels_for ["width", "order", "thing"] := by
      refine' Y.def_at KX G (x := "are_levels_for") Law.s_are_levels_for ["width", "order", "thing"] ?a ?l ?c ?k (fun _ _ _ _ _ _ us hl => match us, hl with | [_, _, _], _ => rfl)
      (case a => k_is); (case l => k_is); (case c => k_is); (case k => k_is)
    have D_known_order : Y.DefAt (L2.KOf KX) mg "known_order" Law.s_known_order ["word", "width"] := by
      refine' Y.def_at KX G (x := "known_order") Law.s_known_order ["word", "width"] ?a ?l ?c ?k (fun _ _ _ _ _ _ us hl => match us, hl with | [_, _], _ => rfl)
      (case a => k_is); (case l => k_is); (case c => k_is); (case k => k_is)
    have D__law_hand : Y.DefAt (L2.KOf KX) mg "_law_hand" Law.s__law_hand ["script"] := by
      refine' Y.def_at KX G (x := "_law_hand") Law.s__law_hand ["script"] ?a ?l ?c ?k (fun _ _ _ _ _ _ us hl => match us, hl with | [_], _ => rfl)
      (case a => k_is); (case l => k_is); (case c => k_is); (case k => k_is)
    have D__law_draw : Y.DefAt (L2.KOf KX) mg "_law_draw" Law.s__law_draw ["hand", "many"] := by
      refine' Y.def_at KX G (x := "_law_draw") Law.s__law_draw ["hand", "many"] ?a ?l ?c ?k (fun _ _ _ _ _ _ us hl => match us, hl with | [_, _], _ => rfl)
      (case a => k_is); (case l => k_is); (case c => k_is); (case k => k_is)
    have D__law_any : Y.DefAt (L2.KOf KX) mg "_law_any" Law.s__law_any ["hand", "some"] := by
      refine' Y.def_at KX G (x := "_law_any") Law.s__law_any ["hand", "some"] ?a ?l ?c ?k (fun _ _ _ _ _ _ us hl => match us, hl with | [_, _], _ => rfl)
      (case a => k_is); (case l => k_is); (case c => k_is); (case k => k_is)
    have D__law_shuffled : Y.DefAt (L2.KOf KX) mg "_law_shuffled" Law.s__law_shuffled ["hand", "some"] := by
      refine' Y.def_at KX G (x := "_law_shuffled") Law.s__law_shuffled ["hand", "some"] ?a ?l ?c ?k (fun _ _ _ _ _ _ us hl => match us, hl with | [_, _], _ => rfl)
      (case a => k_is); (case l => k_is); (case c => k_is); (case k => k_is)
    have D__law_is : Y.DefAt (L2.KOf KX) mg "_law_is" Law.s__law_is ["said", "due"] := by
      refine' Y.def_at KX G (x := "_law_is") Law.s__law_is ["said", "due"] ?a ?l ?c ?k (fun _ _ _ _ _ _ us hl => match us, hl with | [_, _], _ => rfl)
      (case a => k_is); (case l => k_is); (case c => k_is); (case k => k_is)
    have D__law_is_int : Y.DefAt (L2.KOf KX) mg "_law_is_int" Law.s__law_is_int ["thing"] := by
      refine' Y.def_at KX G (x := "_law_is_int") Law.s__law_is_int ["thing"] ?a ?l ?c ?k (fun _ _ _ _ _ _ us hl => match us, hl with | [_], _ => rfl)
      (case a => k_is); (case l => k_is); (case c => k_is); (case k => k_is)
    have D__law_size : Y.DefAt (L2.KOf KX) mg "_law_size" Law.s__law_size ["width"] := by
      refine' Y.def_at KX G (x := "_law_size") Law.s__law_size ["width"] ?a ?l ?c ?k (fun _ _ _ _ _ _ us hl => match us, hl with | [_], _ => rfl)
      (case a => k_is); (case l => k_is); (case c => k_is); (case k => k_is)
    have D__law_width : Y.DefAt (L2.KOf KX) mg "_law_width" Law.s__law_width ["hand"] := by
      refine' Y.def_at KX G (x := "_law_width") Law.s__law_width ["hand"] ?a ?l ?c ?k (fun _ _ _ _ _ _ us hl => match us, hl with | [_], _ => rfl)
      (case a => k_is); (case l => k_is); (case c => k_is); (case k => k_is)
    have D__law_word : Y.DefAt (L2.KOf KX) mg "_law_word" Law.s__law_word ["hand", "width"] := by
      refine' Y.def_at KX G (x := "_law_word") Law.s__law_word ["hand", "width"] ?a ?l ?c ?k (fun _ _ _ _ _ _ us hl => match us, hl with | [_, _], _ => rfl)
      (case a => k_is); (case l => k_is); (case c => k_is); (case k => k_is)
    have D__law_bits : Y.DefAt (L2.KOf KX) mg "_law_bits" Law.s__law_bits ["width", "word"] := by
      refine' Y.def_at KX G (x := "_law_bits") Law.s__law_bits ["width", "word"] ?a ?l ?c ?k (fun _ _ _ _ _ _ us hl => match us, hl with | [_, _], _ => rfl)
      (case a => k_is); (case l => k_is); (case c => k_is); (case k => k_is)
    have D__law_number : Y.DefAt (L2.KOf KX) mg "_law_number" Law.s__law_number ["bits"] := by
      refine' Y.def_at KX G (x := "_law_number") Law.s__law_number ["bits"] ?a ?l ?c ?k (fun _ _ _ _ _ _ us hl => match us, hl with | [_], _ => rfl)
      (case a => k_is); (case l => k_is); (case c => k_is); (case k => k_is)
    have D__law_order : Y.DefAt (L2.KOf KX) mg "_law_order" Law.s__law_order ["hand", "width"] := by
      refine' Y.def_at KX G (x := "_law_order") Law.s__law_order ["hand", "width"] ?a ?l ?c ?k (fun _ _ _ _ _ _ us hl => match us, hl with | [_, _], _ => rfl)
      (case a => k_is); (case l => k_is); (case c => k_is); (case k => k_is)
    have D__law_laid : Y.DefAt (L2.KOf KX) mg "_law_laid" Law.s__law_laid ["width", "order", "word"] := by
      refine' Y.def_at KX G (x := "_law_laid") Law.s__law_laid ["width", "order", "word"] ?a ?l ?c ?k (fun _ _ _ _ _ _ us hl => match us, hl with | [_, _, _], _ => rfl)
      (case a => k_is); (case l => k_is); (case c => k_is); (case k => k_is)
    have D__law_fits : Y.DefAt (L2.KOf KX) mg "_law_fits" Law.s__law_fits ["width", "mask", "steps"] := by
      refine' Y.def_at KX G (x := "_law_fits") Law.s__law_fits ["width", "mask", "steps"] ?a ?l ?c ?k (fun _ _ _ _ _ _ us hl => match us, hl with | [_, _, _], _ => rfl)
      (case a => k_is); (case l => k_is); (case c => k_is); (case k => k_is)
    have D__law_levels : Y.DefAt (L2.KOf KX) mg "_law_levels" Law.s__law_levels ["hand", "width", "most"] := by
      refine' Y.def_at KX G (x := "_law_levels") Law.s__law_levels ["hand", "width", "most"] ?a ?l ?c ?k (fun _ _ _ _ _ _ us hl => match us, hl with | [_, _, _], _ => rfl)
      (case a => k_is); (case l => k_is); (case c => k_is); (case k => k_is)
    have D__law_exchanged : Y.DefAt (L2.KOf KX) mg "_law_exchanged" Law.s__law_exchanged ["word", "mask", "steps"] := by
      refine' Y.def_at KX G (x := "_law_exchanged") Law.s__law_exchanged ["word", "mask", "steps"] ?a ?l ?c ?k (fun _ _ _ _ _ _ us hl => match us, hl with | [_, _, _], _ => rfl)
      (case a => k_is); (case l => k_is); (case c => k_is); (case k => k_is)
    have D__law_are_levels : Y.DefAt (L2.KOf KX) mg "_law_are_levels" Law.s__law_are_levels ["width", "thing"] := by
      refine' Y.def_at KX G (x := "_law_are_levels") Law.s__law_are_levels ["width", "thing"] ?a ?l ?c ?k (fun _ _ _ _ _ _ us hl => match us, hl with | [_, _], _ => rfl)
      (case a => k_is); (case l => k_is); (case c => k_is); (case k => k_is)
    have D__law_levels_right : Y.DefAt (L2.KOf KX) mg "_law_levels_right" Law.s__law_levels_right ["hand", "width"] := by
      refine' Y.def_at KX G (x := "_law_levels_right") Law.s__law_levels_right ["hand", "width"] ?a ?l ?c ?k (fun _ _ _ _ _ _ us hl => match us, hl with | [_, _], _ => rfl)
      (case a => k_is); (case l => k_is); (case c => k_is); (case k => k_is)
    have D__law_order_right : Y.DefAt (L2.KOf KX) mg "_law_order_right" Law.s__law_order_right ["hand", "width", "order"] := by
      refine' Y.def_at KX G (x := "_law_order_right") Law.s__law_order_right ["hand", "width", "order"] ?a ?l ?c ?k (fun _ _ _ _ _ _ us hl => match us, hl with | [_, _, _], _ => rfl)
      (case a => k_is); (case l => k_is); (case c => k_is); (case k => k_is)
    have Z : Law.Zs (L2.KOf KX) mg := ⟨PySem.W.mg_none_of KX G (by k_is), PySem.W.mg_none_of KX G (by k_is), PySem.W.mg_none_of KX G (by k_is), PySem.W.mg_none_of KX G (by k_is), PySem.W.mg_none_of KX G (by k_is), PySem.W.mg_none_of KX G (by k_is), PySem.W.mg_none_of KX G (by k_is), PySem.W.mg_none_of KX G (by k_is), PySem.W.mg_none_of KX G (by k_is), PySem.W.mg_none_of KX G (by k_is), PySem.W.mg_none_of KX G (by k_is), PySem.W.mg_none_of KX G (by k_is), PySem.W.mg_none_of KX G (by k_is), PySem.W.mg_none_of KX G (by k_is), PySem.W.mg_none_of KX G (by k_is), Y.konst_int KX G (by k_is)⟩
    have go : ∃ (fd : FuncData), mg "law" = some (.ref fa) ∧ L2.Fun (L2.KOf KX) "law" "law" Law.s_law fa fd ∧ ∀ (s : Shared) (u : Value), BindsTo s fd ⟨[u], []⟩ [("script", u)] := by
      refine' Y.law_at KX G hmg Law.s_law ?a ?l ?c ?k (fun _ _ _ _ _ _ _ => rfl)
      (case a => k_is); (case l => k_is); (case c => k_is); (case k => k_is)
    obtain ⟨fd, _, FL, hb⟩ := go
    exact ⟨fd, hb, fun base _ _ => Law.all_ok Z D_is_integer D_is_within D_is_tuple_of D_are_integers D_check_width D_is_word D_check_word D_is_order D_check_order D_laid_of D_laid D_check_swap D_swapped D_exchanged D_coloured D_mask_of D_routed D_levels_for D_are_levels D_order_of_levels D_by_levels D_are_levels_for D_known_order D__law_hand D__law_draw D__law_any D__law_shuffled D__law_is D__law_is_int D__law_size D__law_width D__law_word D__law_bits D__law_number D__law_order D__law_laid D__law_fits D__law_levels D__law_exchanged D__law_are_levels D__law_levels_right D__law_order_right FL⟩
