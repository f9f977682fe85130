import PyProof.Rows.All
import Wide.All
import OpenK.AllK
import Wide.FinOn
import HandS.ForMost
import HandS.Exc
import HandS.ExcOwn
import HandS.WordsExc
import HandS.CallSlots
import HandS.IsInst
import HandS.Wide
import HandS.WideMore
import HandS.WideBits
import HandS.Deep
import HandS.TupAny
import HandS.TupMul
import HandS.Style
import HandS.Conv
import HandS.SortInts
import HandS.Zip
import HandS.Rev
import HandS.RevRange
import HandS.DictTup
import HandS.RaiseMore
import HandS.TupLe
import HandS.NoneIn
import KE.KStateDown
import PySem.Challenge.RW_wordhouse_k81_whole_two_words
set_option Elab.async false
set_option linter.all false
set_option maxRecDepth 100000
set_option maxHeartbeats 4000000
set_option autoImplicit false
namespace Y
open PySem PySem.Spec PyProof.Rows L2
abbrev Sg := L2.St
/-! ### data without a heap -/
inductive D where
  | non | bl (b : Bool) | int (i : Int) | str (s : Str)
  | tup (ds : List D) | lst (ds : List D)
  | dct (ks : List Key) (ds : List D) | dctT (ks : List (List Key)) (ds : List D)
  | ins (c : Str) (fs : List Str) (ds : List D)
  | live (k : Nat) | scr (ns : List Int)
instance : Inhabited D := ⟨.non⟩
/-- frozen part of the heap, addresses of live objects -/
structure Bs where
  H0 : Hp
  A : Nat → Option Addr
/-- names -/
structure Kn where
  K : PySem.W.Frag
  mg : Str → Option Value
mutual
def IsD (n : Kn) (B : Bs) : D → V → Prop
  | .non, v => v = .non
  | .bl b, v => v = .bl b
  | .int i, v => v = .int i
  | .str s, v => v = .str s
  | .tup ds, v => ∃ a vs, v = .ref a ∧ SqT n.K B.H0 a vs ∧ IsDs n B ds vs
  | .lst ds, v => ∃ a vs, v = .ref a ∧ Rd B.H0 a (.lst vs) ∧ IsDs n B ds vs
  | .scr ns, v => ∃ a, v = .ref a ∧ SqL n.K B.H0 a (ns.map V.int)
  | .dct ks ds, v => ∃ a vs, v = .ref a ∧ Rd B.H0 a (.dK (ks.zip vs)) ∧ ks.length = ds.length ∧ IsDs n B ds vs
  | .dctT ks ds, v => ∃ a vs, v = .ref a ∧ Rd B.H0 a (.dT (ks.zip vs)) ∧ ks.length = ds.length ∧ IsDs n B ds vs
  | .ins c fs ds, v => ∃ a C dx vs, v = .ref a ∧ n.mg c = some (.ref C) ∧ B.H0 a = some (.ins C dx (fs.zip vs)) ∧ fs.length = ds.length ∧ IsDs n B ds vs
  | .live k, v => ∃ a, v = .ref a ∧ B.A k = some a
def IsDs (n : Kn) (B : Bs) : List D → List V → Prop
  | [], vs => vs = []
  | d :: ds, vs => ∃ v r, vs = v :: r ∧ IsD n B d v ∧ IsDs n B ds r
end
structure Bs.le (B B' : Bs) : Prop where
  h0 : ∀ a o, B.H0 a = some o → B'.H0 a = some o
  lv : ∀ k a, B.A k = some a → B'.A k = some a
theorem Bs.le.refl (B : Bs) : B.le B := ⟨fun _ _ h => h, fun _ _ h => h⟩
theorem Bs.le.trans {B B1 B2 : Bs} (a : B.le B1) (b : B1.le B2) : B.le B2 := ⟨fun x o h => b.h0 x o (a.h0 x o h), fun k x h => b.lv k x (a.lv k x h)⟩
theorem sqT_mono {K : PySem.W.Frag} {H H' : Hp} {a : Addr} {xs : List V} (e : ∀ a o, H a = some o → H' a = some o) (h : SqT K H a xs) : SqT K H' a xs := by
  rcases h with (h | ⟨o, h⟩) | h
  · exact .inl (.inl (e _ _ h))
  · exact .inl (.inr ⟨o, e _ _ h⟩)
  · exact .inr h
theorem sqL_mono {K : PySem.W.Frag} {H H' : Hp} {a : Addr} {xs : List V} (e : ∀ a o, H a = some o → H' a = some o) (h : SqL K H a xs) : SqL K H' a xs := by
  rcases h with (h | ⟨o, h⟩) | h
  · exact .inl (.inl (e _ _ h))
  · exact .inl (.inr ⟨o, e _ _ h⟩)
  · exact .inr h
theorem rd_mono {H H' : Hp} {a : Addr} {u : HO} (e : ∀ a o, H a = some o → H' a = some o) (h : Rd H a u) : Rd H' a u := by
  rcases h with h | ⟨o, h⟩
  · exact .inl (e _ _ h)
  · exact .inr ⟨o, e _ _ h⟩
mutual
theorem IsD.mono {n : Kn} {B B' : Bs} (e : B.le B') : ∀ (d : D) (v : V), IsD n B d v → IsD n B' d v
  | .non, _, h => h
  | .bl _, _, h => h
  | .int _, _, h => h
  | .str _, _, h => h
  | .tup ds, v, h => by
    obtain ⟨a, vs, h1, h2, h3⟩ := h
    exact ⟨a, vs, h1, sqT_mono e.h0 h2, IsDs.mono e ds vs h3⟩
  | .lst ds, v, h => by
    obtain ⟨a, vs, h1, h2, h3⟩ := h
    exact ⟨a, vs, h1, rd_mono e.h0 h2, IsDs.mono e ds vs h3⟩
  | .scr ns, v, h => by
    obtain ⟨a, h1, h2⟩ := h
    exact ⟨a, h1, sqL_mono e.h0 h2⟩
  | .dct ks ds, v, h => by
    obtain ⟨a, vs, h1, h2, h3, h4⟩ := h
    exact ⟨a, vs, h1, rd_mono e.h0 h2, h3, IsDs.mono e ds vs h4⟩
  | .dctT ks ds, v, h => by
    obtain ⟨a, vs, h1, h2, h3, h4⟩ := h
    exact ⟨a, vs, h1, rd_mono e.h0 h2, h3, IsDs.mono e ds vs h4⟩
  | .ins c fs ds, v, h => by
    obtain ⟨a, C, dx, vs, h1, h2, h3, h4, h5⟩ := h
    exact ⟨a, C, dx, vs, h1, h2, e.h0 _ _ h3, h4, IsDs.mono e ds vs h5⟩
  | .live k, v, h => by
    obtain ⟨a, h1, h2⟩ := h
    exact ⟨a, h1, e.lv _ _ h2⟩
theorem IsDs.mono {n : Kn} {B B' : Bs} (e : B.le B') : ∀ (ds : List D) (vs : List V), IsDs n B ds vs → IsDs n B' ds vs
  | [], _, h => h
  | d :: ds, vs, h => by
    obtain ⟨v, r, h1, h2, h3⟩ := h
    exact ⟨v, r, h1, IsD.mono e d v h2, IsDs.mono e ds r h3⟩
end
theorem IsDs.length {n : Kn} {B : Bs} : ∀ {ds : List D} {vs : List V}, IsDs n B ds vs → vs.length = ds.length
  | [], vs, h => by cases (show vs = [] from h); rfl
  | d :: ds, vs, h => by
    obtain ⟨v, r, rfl, _, h3⟩ := h
    simp [IsDs.length h3]
theorem IsDs.append {n : Kn} {B : Bs} : ∀ {ds es : List D} {vs ws : List V}, IsDs n B ds vs → IsDs n B es ws → IsDs n B (ds ++ es) (vs ++ ws)
  | [], es, vs, ws, h, h' => by cases (show vs = [] from h); exact h'
  | d :: ds, es, vs, ws, h, h' => by
    obtain ⟨v, r, rfl, h2, h3⟩ := h
    exact ⟨v, r ++ ws, rfl, h2, IsDs.append h3 h'⟩
theorem IsDs.get {n : Kn} {B : Bs} : ∀ {ds : List D} {vs : List V} {i : Nat} {d : D}, IsDs n B ds vs → ds[i]? = some d → ∃ v, vs[i]? = some v ∧ IsD n B d v
  | [], vs, i, d, _, e => by simp at e
  | d0 :: ds, vs, 0, d, h, e => by
    obtain ⟨v, r, rfl, h2, h3⟩ := h
    simp at e
    subst e
    exact ⟨v, rfl, h2⟩
  | d0 :: ds, vs, i + 1, d, h, e => by
    obtain ⟨v, r, rfl, h2, h3⟩ := h
    exact IsDs.get (i := i) h3 (by simpa using e)
theorem IsDs.set {n : Kn} {B : Bs} {d : D} {v : V} (hd : IsD n B d v) : ∀ {ds : List D} {vs : List V} (i : Nat), IsDs n B ds vs → IsDs n B (ds.set i d) (vs.set i v)
  | [], vs, i, h => by cases (show vs = [] from h); exact rfl
  | d0 :: ds, vs, 0, h => by
    obtain ⟨w, r, rfl, h2, h3⟩ := h
    exact ⟨v, r, rfl, hd, h3⟩
  | d0 :: ds, vs, i + 1, h => by
    obtain ⟨w, r, rfl, h2, h3⟩ := h
    exact ⟨w, r.set i v, rfl, h2, IsDs.set hd i h3⟩
theorem IsDs.take {n : Kn} {B : Bs} : ∀ {ds : List D} {vs : List V} (i : Nat), IsDs n B ds vs → IsDs n B (ds.take i) (vs.take i)
  | ds, vs, 0, h => by simp [IsDs]
  | [], vs, i + 1, h => by cases (show vs = [] from h); simp [IsDs]
  | d0 :: ds, vs, i + 1, h => by
    obtain ⟨w, r, rfl, h2, h3⟩ := h
    exact ⟨w, r.take i, rfl, h2, IsDs.take i h3⟩
theorem IsDs.drop {n : Kn} {B : Bs} : ∀ {ds : List D} {vs : List V} (i : Nat), IsDs n B ds vs → IsDs n B (ds.drop i) (vs.drop i)
  | ds, vs, 0, h => by simpa using h
  | [], vs, i + 1, h => by cases (show vs = [] from h); simp [IsDs]
  | d0 :: ds, vs, i + 1, h => by
    obtain ⟨w, r, rfl, h2, h3⟩ := h
    exact IsDs.drop i h3
theorem IsDs.reverse {n : Kn} {B : Bs} : ∀ {ds : List D} {vs : List V}, IsDs n B ds vs → IsDs n B ds.reverse vs.reverse
  | [], vs, h => by cases (show vs = [] from h); simp [IsDs]
  | d0 :: ds, vs, h => by
    obtain ⟨w, r, rfl, h2, h3⟩ := h
    rw [List.reverse_cons, List.reverse_cons]
    exact IsDs.append (IsDs.reverse h3) ⟨w, [], rfl, h2, rfl⟩
theorem IsDs.ints {n : Kn} {B : Bs} : ∀ {ns : List Int} {vs : List V}, IsDs n B (ns.map D.int) vs → vs = ns.map V.int
  | [], vs, h => h
  | i :: ns, vs, h => by
    obtain ⟨w, r, rfl, h2, h3⟩ := h
    rw [IsDs.ints h3, (show w = .int i from h2)]
    rfl
theorem IsDs.of_ints {n : Kn} {B : Bs} : ∀ {ns : List Int}, IsDs n B (ns.map D.int) (ns.map V.int)
  | [] => rfl
  | i :: ns => ⟨_, _, rfl, rfl, IsDs.of_ints⟩
/-! ### mutable things -/
inductive Fr where
  | l (ds : List D) | k (ks : List Key) (ds : List D) | t (ks : List (List Key)) (ds : List D)
  | o (c : Str) (fs : List Str) (ds : List D)
@[simp] def Fr.toD : Fr → D
  | .l ds => .lst ds
  | .k ks ds => .dct ks ds
  | .t ks ds => .dctT ks ds
  | .o c fs ds => .ins c fs ds
def FrOk (n : Kn) (B : Bs) (H : Hp) (a : Addr) : Fr → Prop
  | .l ds => ∃ vs, H a = some (.lst vs) ∧ IsDs n B ds vs
  | .k ks ds => ∃ vs, H a = some (.dK (ks.zip vs)) ∧ ks.length = ds.length ∧ IsDs n B ds vs
  | .t ks ds => ∃ vs, H a = some (.dT (ks.zip vs)) ∧ ks.length = ds.length ∧ IsDs n B ds vs
  | .o c fs ds => ∃ C dx vs, n.mg c = some (.ref C) ∧ H a = some (.ins C dx (fs.zip vs)) ∧ fs.length = ds.length ∧ IsDs n B ds vs
theorem FrOk.mono {n : Kn} {B B' : Bs} {H H' : Hp} {a : Addr} {f : Fr} (e : B.le B') (eh : ∀ o, H a = some o → H' a = some o) (h : FrOk n B H a f) : FrOk n B' H' a f := by
  cases f with
  | l ds => obtain ⟨vs, h1, h2⟩ := h; exact ⟨vs, eh _ h1, h2.mono e _ _⟩
  | k ks ds => obtain ⟨vs, h1, h2, h3⟩ := h; exact ⟨vs, eh _ h1, h2, h3.mono e _ _⟩
  | t ks ds => obtain ⟨vs, h1, h2, h3⟩ := h; exact ⟨vs, eh _ h1, h2, h3.mono e _ _⟩
  | o c fs ds => obtain ⟨C, dx, vs, h1, h2, h3, h4⟩ := h; exact ⟨C, dx, vs, h1, eh _ h2, h3, h4.mono e _ _⟩
theorem FrOk.there {n : Kn} {B : Bs} {H : Hp} {a : Addr} {f : Fr} (h : FrOk n B H a f) : ∃ o, H a = some o := by
  cases f with
  | l ds => obtain ⟨vs, h1, h2⟩ := h; exact ⟨_, h1⟩
  | k ks ds => obtain ⟨vs, h1, h2, h3⟩ := h; exact ⟨_, h1⟩
  | t ks ds => obtain ⟨vs, h1, h2, h3⟩ := h; exact ⟨_, h1⟩
  | o c fs ds => obtain ⟨C, dx, vs, h1, h2, h3, h4⟩ := h; exact ⟨_, h2⟩
/-- frozen, it is data -/
theorem FrOk.frozen {n : Kn} {B : Bs} {H : Hp} {a : Addr} {f : Fr} (h : FrOk n B H a f) (e : B.H0 a = H a) : IsD n B f.toD (.ref a) := by
  cases f with
  | l ds => obtain ⟨vs, h1, h2⟩ := h; exact ⟨a, vs, rfl, .inl (e.trans h1), h2⟩
  | k ks ds => obtain ⟨vs, h1, h2, h3⟩ := h; exact ⟨a, vs, rfl, .inl (e.trans h1), h2, h3⟩
  | t ks ds => obtain ⟨vs, h1, h2, h3⟩ := h; exact ⟨a, vs, rfl, .inl (e.trans h1), h2, h3⟩
  | o c fs ds => obtain ⟨C, dx, vs, h1, h2, h3, h4⟩ := h; exact ⟨a, C, dx, vs, rfl, h1, e.trans h2, h3, h4⟩
/-- a value as it stands in the heap at hand -/
def VD (n : Kn) (B : Bs) (H : Hp) : D → V → Prop
  | .lst ds, v => ∃ a vs, v = .ref a ∧ Rd H a (.lst vs) ∧ IsDs n B ds vs
  | .scr ns, v => ∃ a, v = .ref a ∧ SqL n.K B.H0 a (ns.map V.int)
  | .dct ks ds, v => ∃ a vs, v = .ref a ∧ Rd H a (.dK (ks.zip vs)) ∧ ks.length = ds.length ∧ IsDs n B ds vs
  | .dctT ks ds, v => ∃ a vs, v = .ref a ∧ Rd H a (.dT (ks.zip vs)) ∧ ks.length = ds.length ∧ IsDs n B ds vs
  | .ins c fs ds, v => ∃ a C dx vs, v = .ref a ∧ n.mg c = some (.ref C) ∧ H a = some (.ins C dx (fs.zip vs)) ∧ fs.length = ds.length ∧ IsDs n B ds vs
  | .tup ds, v => ∃ a vs, v = .ref a ∧ SqT n.K B.H0 a vs ∧ IsDs n B ds vs
  | .non, v => v = .non
  | .bl b, v => v = .bl b
  | .int i, v => v = .int i
  | .str s, v => v = .str s
  | .live k, v => ∃ a, v = .ref a ∧ B.A k = some a
theorem IsD.view {n : Kn} {B : Bs} {H : Hp} (e : ∀ a o, B.H0 a = some o → H a = some o) {d : D} {v : V} (h : IsD n B d v) : VD n B H d v := by
  cases d with
  | lst ds => obtain ⟨a, vs, h1, h2, h3⟩ := h; exact ⟨a, vs, h1, rd_mono e h2, h3⟩
  | dct ks ds => obtain ⟨a, vs, h1, h2, h3, h4⟩ := h; exact ⟨a, vs, h1, rd_mono e h2, h3, h4⟩
  | dctT ks ds => obtain ⟨a, vs, h1, h2, h3, h4⟩ := h; exact ⟨a, vs, h1, rd_mono e h2, h3, h4⟩
  | ins c fs ds => obtain ⟨a, C, dx, vs, h1, h2, h3, h4, h5⟩ := h; exact ⟨a, C, dx, vs, h1, h2, e _ _ h3, h4, h5⟩
  | _ => exact h
theorem FrOk.view {n : Kn} {B : Bs} {H : Hp} {a : Addr} {f : Fr} (h : FrOk n B H a f) : VD n B H f.toD (.ref a) := by
  cases f with
  | l ds => obtain ⟨vs, h1, h2⟩ := h; exact ⟨a, vs, rfl, .inl h1, h2⟩
  | k ks ds => obtain ⟨vs, h1, h2, h3⟩ := h; exact ⟨a, vs, rfl, .inl h1, h2, h3⟩
  | t ks ds => obtain ⟨vs, h1, h2, h3⟩ := h; exact ⟨a, vs, rfl, .inl h1, h2, h3⟩
  | o c fs ds => obtain ⟨C, dx, vs, h1, h2, h3, h4⟩ := h; exact ⟨a, C, dx, vs, rfl, h1, h2, h3, h4⟩
/-! ### the mirror's state -/
inductive SV where
  | d (x : D) | m (f : Fr)
abbrev G := List Fr
structure MS where
  sl : List (Option SV)
  g : G
def SVk (n : Kn) (B : Bs) (H : Hp) (oa : Option Addr) (v : V) : SV → Prop
  | .d x => IsD n B x v
  | .m f => ∃ a, oa = some a ∧ v = .ref a ∧ FrOk n B H a f
structure Ext (B : Bs) (H : Hp) (B' : Bs) (H' : Hp) : Prop where
  le : B.le B'
  n0 : ∀ a o, B'.H0 a = some o → B.H0 a = some o ∨ H a = none
  nl : ∀ k a, B'.A k = some a → B.A k = some a ∨ H a = none
  fr : ∀ a o, H a = some o → (∀ k, B.A k ≠ some a) → H' a = some o
  tr : ∀ a, H a ≠ none → H' a ≠ none
theorem Ext.refl (B : Bs) (H : Hp) : Ext B H B H := ⟨.refl B, fun _ _ h => .inl h, fun _ _ h => .inl h, fun _ _ h _ => h, fun _ h => h⟩
theorem Ext.none {B B' : Bs} {H H' : Hp} (e : Ext B H B' H') {a : Addr} (h : H' a = Option.none) : H a = Option.none := by
  cases q : H a with
  | none => rfl
  | some o => exact absurd h (e.tr a (by rw [q]; simp))
theorem Ext.trans {B B1 B2 : Bs} {H H1 H2 : Hp} (x : Ext B H B1 H1) (y : Ext B1 H1 B2 H2) : Ext B H B2 H2 where
  le := x.le.trans y.le
  n0 := fun a o h => by
    rcases y.n0 a o h with h | h
    · exact x.n0 a o h
    · exact .inr (x.none h)
  nl := fun k a h => by
    rcases y.nl k a h with h | h
    · exact x.nl k a h
    · exact .inr (x.none h)
  fr := fun a o h hk => y.fr a o (x.fr a o h hk) fun k q => by
    rcases x.nl k a q with z | z
    · exact hk k z
    · rw [z] at h; cases h
  tr := fun a h => y.tr a (x.tr a h)
structure RelL (n : Kn) (B : Bs) (H : Hp) (g : G) : Prop where
  sub : ∀ a o, B.H0 a = some o → H a = some o
  inj : ∀ k l a, B.A k = some a → B.A l = some a → k = l
  dom : ∀ k a, B.A k = some a → k < g.length
  ob : ∀ k f, g[k]? = some f → ∃ a, B.A k = some a ∧ B.H0 a = none ∧ FrOk n B H a f
/-- what is fixed while a def's body runs -/
structure Cn where
  n : Kn
  nn : Nat
  Bst : Bs
  Hst : Hp
structure Free (c : Cn) (B : Bs) (H : Hp) (a : Addr) : Prop where
  h0 : B.H0 a = none
  nl : ∀ k, B.A k ≠ some a
  hs : c.Hst a = none
  th : H a ≠ none
structure Rel (c : Cn) (B : Bs) (σ : Sg) (H : Hp) (st : MS) (fs : List (Addr × Fr)) : Prop where
  ext : Ext c.Bst c.Hst B H
  lv : RelL c.n B H st.g
  len : σ.length = c.nn
  sl : ∃ (ad : Nat → Option Addr) (τ : Sg), (∀ i j a, ad i = some a → ad j = some a → i = j) ∧ (∀ i a, ad i = some a → Free c B H a ∧ ∀ p ∈ fs, p.1 ≠ a) ∧
    (∀ i sv, st.sl[i]? = some (some sv) → ∃ v, (σ ++ τ)[i]? = some (some v) ∧ SVk c.n B H (ad i) v sv)
  fr : ∀ p ∈ fs, Free c B H p.1 ∧ FrOk c.n B H p.1 p.2
  fnd : (fs.map (·.1)).Nodup
theorem Rel.sub {c : Cn} {B : Bs} {σ : Sg} {H : Hp} {st : MS} {fs fs' : List (Addr × Fr)} (r : Rel c B σ H st fs) (h : List.Sublist fs' fs) : Rel c B σ H st fs' := by
  obtain ⟨ad, τ, h1, h2, h3⟩ := r.sl
  exact ⟨r.ext, r.lv, r.len, ⟨ad, τ, h1, fun i a h' => ⟨(h2 i a h').1, fun p hp => (h2 i a h').2 p (h.subset hp)⟩, h3⟩, fun p hp => r.fr p (h.subset hp), r.fnd.sublist (h.map _)⟩
theorem Rel.drop {c : Cn} {B : Bs} {σ : Sg} {H : Hp} {st : MS} {fs : List (Addr × Fr)} (r : Rel c B σ H st fs) : Rel c B σ H st [] := r.sub (List.nil_sublist _)
/-- a fresh thing is frozen -/
theorem Rel.freeze {c : Cn} {B : Bs} {σ : Sg} {H : Hp} {st : MS} {a : Addr} {f : Fr} {fs : List (Addr × Fr)} (r : Rel c B σ H st ((a, f) :: fs)) :
    ∃ B', B.le B' ∧ Rel c B' σ H st fs ∧ IsD c.n B' f.toD (.ref a) := by
  obtain ⟨fa, hf⟩ := r.fr (a, f) List.mem_cons_self
  obtain ⟨o, ho⟩ := hf.there
  have le : B.le ⟨upd B.H0 a o, B.A⟩ := ⟨fun b u h => by
    show upd B.H0 a o b = some u
    rw [upd_ne (ne_of_none h fa.h0)]
    exact h, fun _ _ h => h⟩
  have nd : a ∉ fs.map (·.1) ∧ (fs.map (·.1)).Nodup := List.nodup_cons.mp r.fnd
  have nfree : ∀ b, b ≠ a → Free c B H b → Free c ⟨upd B.H0 a o, B.A⟩ H b := fun b hb f1 => ⟨by
    show upd B.H0 a o b = none
    rw [upd_ne hb]
    exact f1.h0, f1.nl, f1.hs, f1.th⟩
  refine ⟨⟨upd B.H0 a o, B.A⟩, le, ⟨⟨r.ext.le.trans le, fun b u h => ?_, r.ext.nl, r.ext.fr, r.ext.tr⟩, ⟨fun b u h => ?_, r.lv.inj, r.lv.dom, fun k f' h => ?_⟩, r.len, ?_, fun p hp => ?_, nd.2⟩, ?_⟩
  · by_cases hb : b = a
    · exact .inr (by rw [hb]; exact fa.hs)
    · have h' : upd B.H0 a o b = some u := h
      rw [upd_ne hb] at h'
      exact r.ext.n0 b u h'
  · have h' : upd B.H0 a o b = some u := h
    by_cases hb : b = a
    · subst hb
      rw [upd_same] at h'
      rw [ho]
      exact h'
    · rw [upd_ne hb] at h'
      exact r.lv.sub b u h'
  · obtain ⟨b, h1, h2, h3⟩ := r.lv.ob k f' h
    have hb : b ≠ a := fun e => fa.nl k (by rw [← e]; exact h1)
    refine ⟨b, h1, ?_, h3.mono le fun _ h => h⟩
    show upd B.H0 a o b = none
    rw [upd_ne hb]
    exact h2
  · obtain ⟨ad, τ, h1, h2, h3⟩ := r.sl
    refine ⟨ad, τ, h1, fun i b h => ?_, fun i sv h => ?_⟩
    · obtain ⟨f1, f2⟩ := h2 i b h
      have hb : b ≠ a := fun e => f2 _ List.mem_cons_self e.symm
      exact ⟨nfree b hb f1, fun p hp => f2 p (List.mem_cons_of_mem _ hp)⟩
    · obtain ⟨v, e, k⟩ := h3 i sv h
      refine ⟨v, e, ?_⟩
      cases sv with
      | d x => exact IsD.mono le x v k
      | m f' =>
        obtain ⟨b, e1, e2, e3⟩ := k
        exact ⟨b, e1, e2, e3.mono le fun _ h => h⟩
  · obtain ⟨g1, g2⟩ := r.fr p (List.mem_cons_of_mem _ hp)
    have hb : p.1 ≠ a := fun e => nd.1 (by rw [← e]; exact List.mem_map_of_mem hp)
    exact ⟨nfree _ hb g1, g2.mono le fun _ h => h⟩
  · refine FrOk.frozen (H := H) (hf.mono le fun _ h => h) ?_
    show upd B.H0 a o a = H a
    rw [upd_same, ho]
/-- a slot's own thing becomes a fresh one -/
theorem Rel.free {c : Cn} {B : Bs} {σ : Sg} {H : Hp} {st : MS} {i : Nat} {f : Fr} {v : V} {fs : List (Addr × Fr)} (r : Rel c B σ H st fs) (hi : st.sl[i]? = some (some (.m f))) (hv : σ[i]? = some (some v)) :
    ∃ a, v = .ref a ∧ Rel c B σ H { st with sl := st.sl.set i none } ((a, f) :: fs) := by
  obtain ⟨ad, τ, h1, h2, h3⟩ := r.sl
  obtain ⟨v', e, a, ea, ev, hf⟩ := h3 i _ hi
  have hil : i < σ.length := (List.getElem?_eq_some_iff.mp hv).1
  have ev' : v' = v := by
    rw [List.getElem?_append_left hil, hv] at e
    simpa using e.symm
  subst ev'
  subst ev
  obtain ⟨fa, hfs⟩ := h2 i a ea
  refine ⟨a, rfl, r.ext, r.lv, r.len, ⟨fun j => if j = i then none else ad j, τ, fun j k b hj hk => ?_, fun j b hj => ?_, fun j sv hj => ?_⟩, fun p hp => ?_, List.nodup_cons.mpr ⟨fun z => ?_, r.fnd⟩⟩
  · by_cases e1 : j = i
    · simp [e1] at hj
    · by_cases e2 : k = i
      · simp [e2] at hk
      · simp [e1] at hj
        simp [e2] at hk
        exact h1 j k b hj hk
  · by_cases e1 : j = i
    · simp [e1] at hj
    · simp [e1] at hj
      refine ⟨(h2 j b hj).1, fun p hp => ?_⟩
      rcases List.mem_cons.mp hp with rfl | hp
      · exact fun e2 => e1 (h1 j i b hj (by rw [← e2]; exact ea))
      · exact (h2 j b hj).2 p hp
  · by_cases e1 : j = i
    · subst e1
      have hj' : (st.sl.set j none)[j]? = some (some sv) := hj
      rw [List.getElem?_set_self (List.getElem?_eq_some_iff.mp hi).1] at hj'
      cases hj'
    · have hj' : (st.sl.set i none)[j]? = some (some sv) := hj
      rw [List.getElem?_set_ne (Ne.symm e1)] at hj'
      obtain ⟨w, e2, k⟩ := h3 j sv hj'
      refine ⟨w, e2, ?_⟩
      simp only [e1, if_false]
      exact k
  · rcases List.mem_cons.mp hp with rfl | hp
    · exact ⟨fa, hf⟩
    · exact r.fr p hp
  · obtain ⟨p, hp, e2⟩ := List.mem_map.mp z
    exact hfs p hp e2
/-- data is known of a slot -/
theorem Rel.know {c : Cn} {B : Bs} {σ : Sg} {H : Hp} {st : MS} {i : Nat} {x : D} {v : V} {fs : List (Addr × Fr)} (r : Rel c B σ H st fs) (hi : st.sl[i]? = some none) (hv : σ[i]? = some (some v)) (hd : IsD c.n B x v) :
    Rel c B σ H { st with sl := st.sl.set i (some (.d x)) } fs := by
  obtain ⟨ad, τ, g1, g2, g3⟩ := r.sl
  have hil : i < σ.length := (List.getElem?_eq_some_iff.mp hv).1
  refine ⟨r.ext, r.lv, r.len, ⟨ad, τ, g1, g2, fun j sv hj => ?_⟩, r.fr, r.fnd⟩
  by_cases e1 : j = i
  · subst e1
    have hj' : (st.sl.set j (some (SV.d x)))[j]? = some (some sv) := hj
    rw [List.getElem?_set_self (List.getElem?_eq_some_iff.mp hi).1] at hj'
    cases hj'
    refine ⟨v, ?_, hd⟩
    rw [List.getElem?_append_left hil]
    exact hv
  · have hj' : (st.sl.set i (some (SV.d x)))[j]? = some (some sv) := hj
    rw [List.getElem?_set_ne (Ne.symm e1)] at hj'
    exact g3 j sv hj'
/-- a slot's own thing is frozen -/
theorem Rel.freezeSlot {c : Cn} {B : Bs} {σ : Sg} {H : Hp} {st : MS} {i : Nat} {f : Fr} {v : V} {fs : List (Addr × Fr)} (r : Rel c B σ H st fs) (hi : st.sl[i]? = some (some (.m f))) (hv : σ[i]? = some (some v)) :
    ∃ B', B.le B' ∧ Rel c B' σ H { st with sl := st.sl.set i (some (.d f.toD)) } fs ∧ IsD c.n B' f.toD v := by
  obtain ⟨a, rfl, q⟩ := r.free hi hv
  obtain ⟨B', le, r', hd⟩ := q.freeze
  have hl : i < st.sl.length := (List.getElem?_eq_some_iff.mp hi).1
  have q2 := r'.know (i := i) (x := f.toD) (by show (st.sl.set i none)[i]? = _; rw [List.getElem?_set_self hl]) hv hd
  have e : (st.sl.set i none).set i (some (SV.d f.toD)) = st.sl.set i (some (SV.d f.toD)) := List.set_set ..
  refine ⟨B', le, ?_, hd⟩
  have e3 : ({ sl := (st.sl.set i none).set i (some (SV.d f.toD)), g := st.g } : MS) = { st with sl := st.sl.set i (some (SV.d f.toD)) } := by rw [e]
  rw [← e3]
  exact q2
/-- data is stored in a slot -/
theorem Rel.store {c : Cn} {B : Bs} {σ : Sg} {H : Hp} {st : MS} {fs : List (Addr × Fr)} {i : Nat} {x : D} {v : V} (r : Rel c B σ H st fs) (hi : i < σ.length) (hd : IsD c.n B x v) :
    Rel c B (σ.set i (some v)) H { st with sl := st.sl.set i (some (.d x)) } fs := by
  obtain ⟨ad, τ, h1, h2, h3⟩ := r.sl
  refine ⟨r.ext, r.lv, by rw [List.length_set]; exact r.len, ⟨fun j => if j = i then none else ad j, τ, fun j k b hj hk => ?_, fun j b hj => ?_, fun j sv hj => ?_⟩, r.fr, r.fnd⟩
  · by_cases e1 : j = i
    · simp [e1] at hj
    · by_cases e2 : k = i
      · simp [e2] at hk
      · simp [e1] at hj
        simp [e2] at hk
        exact h1 j k b hj hk
  · by_cases e1 : j = i
    · simp [e1] at hj
    · simp [e1] at hj
      exact h2 j b hj
  · have hj' : (st.sl.set i (some (SV.d x)))[j]? = some (some sv) := hj
    by_cases e1 : j = i
    · subst e1
      have hl : j < (st.sl.set j (some (SV.d x))).length := (List.getElem?_eq_some_iff.mp hj').1
      rw [List.length_set] at hl
      rw [List.getElem?_set_self hl] at hj'
      cases hj'
      refine ⟨v, ?_, hd⟩
      rw [List.getElem?_append_left (by rw [List.length_set]; exact hi), List.getElem?_set_self hi]
    · rw [List.getElem?_set_ne (Ne.symm e1)] at hj'
      obtain ⟨w, e2, k⟩ := h3 j sv hj'
      refine ⟨w, ?_, by simp only [e1, if_false]; exact k⟩
      rw [← List.set_append_left _ _ hi, List.getElem?_set_ne (Ne.symm e1)]
      exact e2
/-- a fresh thing is stored in a slot -/
theorem Rel.storeF {c : Cn} {B : Bs} {σ : Sg} {H : Hp} {st : MS} {i : Nat} {a : Addr} {f : Fr} {fs : List (Addr × Fr)} (r : Rel c B σ H st ((a, f) :: fs)) (hi : i < σ.length) :
    Rel c B (σ.set i (some (.ref a))) H { st with sl := st.sl.set i (some (.m f)) } fs := by
  obtain ⟨ad, τ, h1, h2, h3⟩ := r.sl
  obtain ⟨fa, hf⟩ := r.fr (a, f) List.mem_cons_self
  have nd : a ∉ fs.map (·.1) ∧ (fs.map (·.1)).Nodup := List.nodup_cons.mp r.fnd
  refine ⟨r.ext, r.lv, by rw [List.length_set]; exact r.len, ⟨fun j => if j = i then some a else ad j, τ, fun j k b hj hk => ?_, fun j b hj => ?_, fun j sv hj => ?_⟩, fun p hp => r.fr p (List.mem_cons_of_mem _ hp), nd.2⟩
  · by_cases e1 : j = i
    · by_cases e2 : k = i
      · rw [e1, e2]
      · simp [e1] at hj
        simp [e2] at hk
        subst hj
        exact absurd rfl ((h2 k _ hk).2 _ List.mem_cons_self)
    · by_cases e2 : k = i
      · simp [e1] at hj
        simp [e2] at hk
        subst hk
        exact absurd rfl ((h2 j _ hj).2 _ List.mem_cons_self)
      · simp [e1] at hj
        simp [e2] at hk
        exact h1 j k b hj hk
  · by_cases e1 : j = i
    · simp [e1] at hj
      subst hj
      exact ⟨fa, fun p hp e2 => nd.1 (by rw [← e2]; exact List.mem_map_of_mem hp)⟩
    · simp [e1] at hj
      exact ⟨(h2 j b hj).1, fun p hp => (h2 j b hj).2 p (List.mem_cons_of_mem _ hp)⟩
  · have hj' : (st.sl.set i (some (SV.m f)))[j]? = some (some sv) := hj
    by_cases e1 : j = i
    · subst e1
      have hl : j < (st.sl.set j (some (SV.m f))).length := (List.getElem?_eq_some_iff.mp hj').1
      rw [List.length_set] at hl
      rw [List.getElem?_set_self hl] at hj'
      cases hj'
      refine ⟨.ref a, ?_, a, by simp, rfl, hf⟩
      rw [List.getElem?_append_left (by rw [List.length_set]; exact hi), List.getElem?_set_self hi]
    · rw [List.getElem?_set_ne (Ne.symm e1)] at hj'
      obtain ⟨w, e2, k⟩ := h3 j sv hj'
      refine ⟨w, ?_, by simp only [e1, if_false]; exact k⟩
      rw [← List.set_append_left _ _ hi, List.getElem?_set_ne (Ne.symm e1)]
      exact e2
/-- slots forgotten -/
@[simp] def wipeS (sl : List (Option SV)) : List Nat → List (Option SV)
  | [] => sl
  | i :: r => (wipeS sl r).set i none
theorem wipeS_some {sl : List (Option SV)} {j : Nat} {sv : SV} : ∀ {l : List Nat}, (wipeS sl l)[j]? = some (some sv) → sl[j]? = some (some sv) ∧ j ∉ l
  | [], h => ⟨h, by simp⟩
  | i :: r, h => by
    have h' : ((wipeS sl r).set i none)[j]? = some (some sv) := h
    by_cases e : j = i
    · subst e
      have hl : j < ((wipeS sl r).set j none).length := (List.getElem?_eq_some_iff.mp h').1
      rw [List.length_set] at hl
      rw [List.getElem?_set_self hl] at h'
      cases h'
    · rw [List.getElem?_set_ne (Ne.symm e)] at h'
      obtain ⟨h1, h2⟩ := wipeS_some h'
      exact ⟨h1, by simp [e, h2]⟩
theorem Rel.wiped {c : Cn} {B : Bs} {σ : Sg} {H : Hp} {st : MS} {fs : List (Addr × Fr)} (l : List Nat) (r : Rel c B σ H st fs) : Rel c B σ H { st with sl := wipeS st.sl l } fs := by
  obtain ⟨ad, τ, h1, h2, h3⟩ := r.sl
  exact ⟨r.ext, r.lv, r.len, ⟨ad, τ, h1, h2, fun i sv h => h3 i sv (wipeS_some h).1⟩, r.fr, r.fnd⟩
/-- the heap goes on: what is tracked and not live stands, live things as told -/
theorem Rel.go {c : Cn} {B B' : Bs} {σ : Sg} {H H' : Hp} {st : MS} {g' : G} {fs : List (Addr × Fr)} (r : Rel c B σ H st fs) (x : Ext B H B' H') (l : RelL c.n B' H' g') : Rel c B' σ H' { st with g := g' } fs := by
  have nfree : ∀ a, Free c B H a → Free c B' H' a ∧ ∀ o, H a = some o → H' a = some o := fun a f => ⟨⟨by
    cases q : B'.H0 a with
    | none => rfl
    | some o =>
      rcases x.n0 a o q with z | z
      · rw [f.h0] at z; cases z
      · exact absurd z f.th, fun k q => by
    rcases x.nl k a q with z | z
    · exact f.nl k z
    · exact f.th z, f.hs, x.tr a f.th⟩, fun o q => x.fr a o q f.nl⟩
  obtain ⟨ad, τ, h1, h2, h3⟩ := r.sl
  refine ⟨r.ext.trans x, l, r.len, ⟨ad, τ, h1, fun i a h => ⟨(nfree a (h2 i a h).1).1, (h2 i a h).2⟩, fun i sv h => ?_⟩, fun p hp => ?_, r.fnd⟩
  · obtain ⟨v, e, k⟩ := h3 i sv h
    refine ⟨v, e, ?_⟩
    cases sv with
    | d y => exact IsD.mono x.le y v k
    | m f' =>
      obtain ⟨b, e1, e2, e3⟩ := k
      exact ⟨b, e1, e2, e3.mono x.le (nfree b (h2 i b e1).1).2⟩
  · obtain ⟨g1, g2⟩ := r.fr p hp
    exact ⟨(nfree _ g1).1, g2.mono x.le (nfree _ g1).2⟩
theorem RelL.free {n : Kn} {B : Bs} {H : Hp} {g : G} (r : RelL n B H g) {p : Addr} (hp : H p = none) : B.H0 p = none ∧ ∀ k, B.A k ≠ some p := by
  constructor
  · cases q : B.H0 p with
    | none => rfl
    | some u => rw [r.sub p u q] at hp; cases hp
  · intro k q
    have hk := r.dom k p q
    obtain ⟨a, h1, _, h3⟩ := r.ob k _ (List.getElem?_eq_getElem hk)
    rw [q] at h1
    obtain ⟨u, hu⟩ := h3.there
    rw [← Option.some.inj h1, hp] at hu
    cases hu
/-- a new object, untracked so far -/
theorem Rel.newF {c : Cn} {B : Bs} {σ : Sg} {H : Hp} {st : MS} {p : Addr} {o : HO} {f : Fr} {fs : List (Addr × Fr)} (r : Rel c B σ H st fs) (hp : H p = none) (hf : FrOk c.n B (upd H p o) p f) : Rel c B σ (upd H p o) st ((p, f) :: fs) := by
  have keep : ∀ b u, H b = some u → upd H p o b = some u := fun b u h => by rw [upd_ne (ne_of_none h hp)]; exact h
  have ne : ∀ b, H b ≠ none → b ≠ p := fun b h e => h (by rw [e]; exact hp)
  obtain ⟨b0, bl⟩ := r.lv.free hp
  have x : Ext B H B (upd H p o) := ⟨.refl B, fun _ _ h => .inl h, fun _ _ h => .inl h, fun a u h _ => keep a u h, fun a h => by rw [upd_ne (ne a h)]; exact h⟩
  have q := r.go (g' := st.g) x ⟨fun a u h => keep a u (r.lv.sub a u h), r.lv.inj, r.lv.dom, fun k f' h => by
    obtain ⟨a, g1, g2, g3⟩ := r.lv.ob k f' h
    exact ⟨a, g1, g2, g3.mono (.refl B) fun u hu => keep a u hu⟩⟩
  have fp : Free c B (upd H p o) p := ⟨b0, bl, r.ext.none hp, by rw [upd_same]; simp⟩
  obtain ⟨ad, τ, h1, h2, h3⟩ := r.sl
  obtain ⟨ad', τ', h1', h2', h3'⟩ := q.sl
  refine ⟨q.ext, q.lv, q.len, ⟨ad, τ, h1, fun i a h => ?_, fun i sv h => ?_⟩, fun z hz => ?_, List.nodup_cons.mpr ⟨fun z => ?_, r.fnd⟩⟩
  · obtain ⟨f1, f2⟩ := h2 i a h
    refine ⟨⟨f1.h0, f1.nl, f1.hs, by rw [upd_ne (ne a f1.th)]; exact f1.th⟩, fun z hz => ?_⟩
    rcases List.mem_cons.mp hz with rfl | hz
    · exact fun e => ne a f1.th e.symm
    · exact f2 z hz
  · obtain ⟨v, e, k⟩ := h3 i sv h
    refine ⟨v, e, ?_⟩
    cases sv with
    | d y => exact k
    | m f' =>
      obtain ⟨b, e1, e2, e3⟩ := k
      exact ⟨b, e1, e2, e3.mono (.refl B) fun u hu => keep b u hu⟩
  · rcases List.mem_cons.mp hz with rfl | hz
    · exact ⟨fp, hf⟩
    · exact q.fr z hz
  · obtain ⟨y, hy, e⟩ := List.mem_map.mp z
    exact ne y.1 (r.fr y hy).1.th e
/-- a new object that never changes -/
theorem Rel.newD {c : Cn} {B : Bs} {σ : Sg} {H : Hp} {st : MS} {p : Addr} {o : HO} {fs : List (Addr × Fr)} (r : Rel c B σ H st fs) (hp : H p = none) :
    B.le ⟨upd B.H0 p o, B.A⟩ ∧ Rel c ⟨upd B.H0 p o, B.A⟩ σ (upd H p o) st fs := by
  have keep : ∀ b u, H b = some u → upd H p o b = some u := fun b u h => by rw [upd_ne (ne_of_none h hp)]; exact h
  have ne : ∀ b, H b ≠ none → b ≠ p := fun b h e => h (by rw [e]; exact hp)
  obtain ⟨b0, bl⟩ := r.lv.free hp
  have le : B.le ⟨upd B.H0 p o, B.A⟩ := ⟨fun b u h => by
    show upd B.H0 p o b = some u
    rw [upd_ne (ne_of_none h b0)]
    exact h, fun _ _ h => h⟩
  have x : Ext B H ⟨upd B.H0 p o, B.A⟩ (upd H p o) := ⟨le, fun b u h => by
    have h' : upd B.H0 p o b = some u := h
    by_cases hb : b = p
    · exact .inr (by rw [hb]; exact hp)
    · rw [upd_ne hb] at h'
      exact .inl h', fun _ _ h => .inl h, fun a u h _ => keep a u h, fun a h => by rw [upd_ne (ne a h)]; exact h⟩
  refine ⟨le, r.go (g' := st.g) x ⟨fun b u h => ?_, r.lv.inj, r.lv.dom, fun k f' h => ?_⟩⟩
  · have h' : upd B.H0 p o b = some u := h
    by_cases hb : b = p
    · subst hb
      rw [upd_same] at h' ⊢
      exact h'
    · rw [upd_ne hb] at h' ⊢
      exact r.lv.sub b u h'
  · obtain ⟨b, h1, h2, h3⟩ := r.lv.ob k f' h
    have hb : b ≠ p := fun e => bl k (by rw [← e]; exact h1)
    refine ⟨b, h1, ?_, h3.mono le fun u hu => keep b u hu⟩
    show upd B.H0 p o b = none
    rw [upd_ne hb]
    exact h2
end Y
namespace Y
open PySem PySem.Spec PyProof.Rows L2
inductive Rs (α : Type) where
  | ok (a : α) (st : MS) | ex (c : Str) (as : List D) (st : MS) | bad
inductive E1 where
  | d (x : D) | s (i : Nat)
inductive EX where
  | e (x : E1) | f (fr : Fr)
abbrev Mo (α : Type) := MS → Rs α
@[simp ↓] def Rs.then {α β : Type} (r : Rs α) (f : α → MS → Rs β) : Rs β := match r with
  | .ok a st => f a st
  | .ex c as st => .ex c as st
  | .bad => .bad
@[simp] theorem then_ok {α β : Type} (a : α) (st : MS) (f : α → MS → Rs β) : (Rs.ok a st).then f = f a st := rfl
@[simp] theorem then_ex {α β : Type} (c : Str) (as : List D) (st : MS) (f : α → MS → Rs β) : (Rs.ex c as st : Rs α).then f = .ex c as st := rfl
@[simp] theorem then_bad {α β : Type} (f : α → MS → Rs β) : (Rs.bad : Rs α).then f = .bad := rfl
@[simp ↓] def opt {α : Type} (o : Option α) (st : MS) : Rs α := match o with
  | some a => .ok a st
  | none => .bad
@[simp] theorem opt_some {α : Type} (a : α) (st : MS) : opt (some a) st = .ok a st := rfl
@[simp] theorem opt_none {α : Type} (st : MS) : (opt none st : Rs α) = .bad := rfl
/-- a value as it stands now -/
@[simp] def val : E1 → MS → Option D
  | .d x, st => match x with
    | .live k => (st.g[k]?).map Fr.toD
    | x => some x
  | .s i, st => match st.sl[i]? with
    | some (some (.d x)) => some x
    | some (some (.m f)) => some f.toD
    | _ => none
/-- a value kept: a slot's own thing is frozen -/
@[simp ↓] def keepE : E1 → Mo D
  | .d x, st => .ok x st
  | .s i, st => match st.sl[i]? with
    | some (some (.d x)) => .ok x st
    | some (some (.m f)) => .ok f.toD { st with sl := st.sl.set i (some (.d f.toD)) }
    | _ => .bad
@[simp ↓] def keepX : EX → Mo D
  | .e e, st => keepE e st
  | .f fr, st => .ok fr.toD st
/-- what an exception's fields are -/
def ExD (n : Kn) (B : Bs) (H : Hp) : List D → Option Addr → Prop
  | [], d => d = none
  | [x], d => ∃ dx nm v, d = some dx ∧ H dx = some (.xd [(nm, v)]) ∧ IsD n B x v
  | _, _ => False
abbrev Fs := List (Addr × Fr)
def Post {α : Type} (c : Cn) (W : WX) (σ : Sg) (B : Bs) (r : Rs α) (k : α → MS → Prop) : Prop := match r with
  | .ok a st => k a st
  | .ex x as st => ∀ B' H' C d, B.le B' → Rel c B' σ H' st [] → c.n.mg x = some (.ref C) → ExD c.n B' H' as d → W (.ref C) d σ H'
  | .bad => False
theorem Post.up {α : Type} {c : Cn} {W : WX} {σ : Sg} {B B' : Bs} {r : Rs α} {k k' : α → MS → Prop} (h : Post c W σ B r k) (e : B.le B') (hk : ∀ a st, k a st → k' a st) : Post c W σ B' r k' := by
  cases r with
  | ok a st => exact hk a st h
  | ex x as st => exact fun B'' H' C d l => h B'' H' C d (e.trans l)
  | bad => exact h
theorem Post.bind {α β : Type} {c : Cn} {W : WX} {σ : Sg} {B : Bs} {r : Rs α} {f : α → MS → Rs β} {k : β → MS → Prop} (h : Post c W σ B (r.then f) k) : Post c W σ B r fun a st => Post c W σ B (f a st) k := by
  cases r with
  | ok a st => exact h
  | ex x as st => exact h
  | bad => exact h
def IsE (n : Kn) (B : Bs) (σ : Sg) (v : V) : E1 → Prop
  | .d x => IsD n B x v
  | .s i => σ[i]? = some (some v)
theorem IsE.mono {n : Kn} {B B' : Bs} {σ : Sg} {v : V} {e : E1} (h : IsE n B σ v e) (l : B.le B') : IsE n B' σ v e := by
  cases e with
  | d x => exact IsD.mono l x v h
  | s i => exact h
def KE (c : Cn) (σ : Sg) (B : Bs) (fs : Fs) (Q : VK) : E1 → MS → Prop := fun e st => ∀ B' H' v, B.le B' → Rel c B' σ H' st fs → IsE c.n B' σ v e → Q v H'
def KX (c : Cn) (σ : Sg) (B : Bs) (fs : Fs) (Q : VK) : EX → MS → Prop := fun e st => match e with
  | .e e => ∀ B' H' v, B.le B' → Rel c B' σ H' st fs → IsE c.n B' σ v e → Q v H'
  | .f fr => ∀ B' H' a, B.le B' → Rel c B' σ H' st ((a, fr) :: fs) → Q (.ref a) H'
def KD (c : Cn) (σ : Sg) (B : Bs) (fs : Fs) (Q : VK) : D → MS → Prop := fun x st => ∀ B' H' v, B.le B' → Rel c B' σ H' st fs → IsD c.n B' x v → Q v H'
def KDs (c : Cn) (σ : Sg) (B : Bs) (fs : Fs) (Q : List V → Hp → Prop) : List D → MS → Prop := fun xs st => ∀ B' H' vs, B.le B' → Rel c B' σ H' st fs → IsDs c.n B' xs vs → Q vs H'
def KT (c : Cn) (σ : Sg) (B : Bs) (fs : Fs) (Q : Bool → Hp → Prop) : Bool → MS → Prop := fun b st => ∀ B' H', B.le B' → Rel c B' σ H' st fs → Q b H'
def rE (c : Cn) (W : WX) (m : Mo E1) : TE := fun σ H Q => ∃ B st fs, Rel c B σ H st fs ∧ Post c W σ B (m st) (KE c σ B fs Q)
def rX (c : Cn) (W : WX) (m : Mo EX) : TE := fun σ H Q => ∃ B st fs, Rel c B σ H st fs ∧ Post c W σ B (m st) (KX c σ B fs Q)
def rD (c : Cn) (W : WX) (m : Mo D) : TE := fun σ H Q => ∃ B st fs, Rel c B σ H st fs ∧ Post c W σ B (m st) (KD c σ B fs Q)
def rT (c : Cn) (W : WX) (m : Mo Bool) : TT := fun σ H Q => ∃ B st fs, Rel c B σ H st fs ∧ Post c W σ B (m st) (KT c σ B fs Q)
def rA (c : Cn) (W : WX) (m : Mo (List D)) : TA := fun σ H Q => ∃ B st fs, Rel c B σ H st fs ∧ Post c W σ B (m st) (KDs c σ B fs Q)
/-- an expression's mirror; one that may give a fresh thing; one whose value is kept; a test's; an argument list's -/
structure EE (X : Cx) (c : Cn) (W : WX) (e : Expr) (m : Mo E1) : Prop where
  pe : PE X e (rE c W m)
structure GE (X : Cx) (c : Cn) (W : WX) (e : Expr) (m : Mo EX) : Prop where
  pe : PE X e (rX c W m)
structure DE (X : Cx) (c : Cn) (W : WX) (e : Expr) (m : Mo D) : Prop where
  pe : PE X e (rD c W m)
structure TEs (X : Cx) (c : Cn) (W : WX) (e : Expr) (m : Mo Bool) : Prop where
  pt : PT X e (rT c W m)
structure AE (X : Cx) (c : Cn) (W : WX) (es : List Expr) (m : Mo (List D)) : Prop where
  pa : PA X es (rA c W m)
/-- the context fits -/
class Fact' (p : Prop) : Prop where
  out : p
class Gd (X : Cx) (c : Cn) : Prop where
  n : c.n = ⟨X.K, X.mg⟩
  calm : X.calm = true
  nd : X.N.Nodup
  nn : c.nn = X.N.length
class Rm (X : Cx) (k : outParam Nat) : Prop where
  room : Room k X.A
class Tk (X : Cx) (W : WX) : Prop where
  tk : Takes X W
theorem peImp {X : Cx} {e : Expr} {t t' : TE} (h : PE X e t) (f : ∀ σ H Q, t' σ H Q → t σ H Q) : PE X e t' := ⟨fun pins s σ H Q I q => h.run pins s σ H Q I (f σ H Q q)⟩
theorem ptImp {X : Cx} {e : Expr} {t t' : TT} (h : PT X e t) (f : ∀ σ H Q, t' σ H Q → t σ H Q) : PT X e t' := ⟨fun pins s σ H Q I q => h.run pins s σ H Q I (f σ H Q q)⟩
theorem paImp {X : Cx} {es : List Expr} {t t' : TA} (h : PA X es t) (f : ∀ σ H Q, t' σ H Q → t σ H Q) : PA X es t' := ⟨fun pos pins s σ H Q I q => h.run pos pins s σ H Q I (f σ H Q q)⟩
section
variable {X : Cx} {c : Cn} {W : WX} {e a b : Expr} {pos : Pos}
/-! ### a value as it stands -/
theorem Rel.slotD {B : Bs} {σ : Sg} {H : Hp} {st : MS} {fs : Fs} {i : Nat} {x : D} {v : V} (r : Rel c B σ H st fs) (hi : st.sl[i]? = some (some (.d x))) (hv : σ[i]? = some (some v)) : IsD c.n B x v := by
  obtain ⟨ad, τ, h1, h2, h3⟩ := r.sl
  obtain ⟨w, e, k⟩ := h3 i _ hi
  have hil : i < σ.length := (List.getElem?_eq_some_iff.mp hv).1
  rw [List.getElem?_append_left hil, hv] at e
  have ew : v = w := by simpa using e
  subst ew
  exact k
theorem Rel.slotM {B : Bs} {σ : Sg} {H : Hp} {st : MS} {fs : Fs} {i : Nat} {f : Fr} {v : V} (r : Rel c B σ H st fs) (hi : st.sl[i]? = some (some (.m f))) (hv : σ[i]? = some (some v)) : ∃ a, v = .ref a ∧ FrOk c.n B H a f ∧ Free c B H a := by
  obtain ⟨ad, τ, h1, h2, h3⟩ := r.sl
  obtain ⟨w, e, k⟩ := h3 i _ hi
  have hil : i < σ.length := (List.getElem?_eq_some_iff.mp hv).1
  rw [List.getElem?_append_left hil, hv] at e
  have ew : v = w := by simpa using e
  subst ew
  obtain ⟨a, e1, e2, e3⟩ := k
  exact ⟨a, e2, e3, (h2 i a e1).1⟩
theorem live_view {B : Bs} {σ : Sg} {H : Hp} {st : MS} {fs : Fs} {k : Nat} {f : Fr} {v : V} (r : Rel c B σ H st fs) (h : IsD c.n B (.live k) v) (hk : st.g[k]? = some f) : ∃ a, v = .ref a ∧ B.A k = some a ∧ FrOk c.n B H a f := by
  obtain ⟨a, e, hA⟩ := h
  obtain ⟨a', h1, h2, h3⟩ := r.lv.ob k f hk
  rw [hA] at h1
  cases h1
  exact ⟨a, e, hA, h3⟩
theorem val_ok {B : Bs} {σ : Sg} {H : Hp} {st : MS} {fs : Fs} {e : E1} {x : D} {v : V} (r : Rel c B σ H st fs) (h : IsE c.n B σ v e) (hv : val e st = some x) : VD c.n B H x v := by
  cases e with
  | d y =>
    cases y with
    | live k =>
      have hv' : (st.g[k]?).map Fr.toD = some x := hv
      cases q : st.g[k]? with
      | none => rw [q] at hv'; cases hv'
      | some f =>
        rw [q] at hv'
        cases hv'
        obtain ⟨a, rfl, _, h3⟩ := live_view r h q
        exact h3.view
    | _ =>
      cases hv
      exact IsD.view r.lv.sub h
  | s i =>
    have h' : σ[i]? = some (some v) := h
    cases q : st.sl[i]? with
    | none => simp [val, q] at hv
    | some o =>
      cases o with
      | none => simp [val, q] at hv
      | some sv =>
        cases sv with
        | d y =>
          simp [val, q] at hv
          subst hv
          exact IsD.view r.lv.sub (r.slotD q h')
        | m f =>
          simp [val, q] at hv
          subst hv
          obtain ⟨a, e2, e3, _⟩ := r.slotM q h'
          subst e2
          exact e3.view
theorem keepE_ok {B : Bs} {σ : Sg} {H : Hp} {st : MS} {fs : Fs} {e : E1} {v : V} {Q : VK} (r : Rel c B σ H st fs) (h : IsE c.n B σ v e) (p : Post c W σ B (keepE e st) (KD c σ B fs Q)) : Q v H := by
  cases e with
  | d y => exact p B H v (.refl B) r h
  | s i =>
    have h' : σ[i]? = some (some v) := h
    cases q : st.sl[i]? with
    | none => simp only [keepE, q] at p; exact p.elim
    | some o =>
      cases o with
      | none => simp only [keepE, q] at p; exact p.elim
      | some sv =>
        cases sv with
        | d y =>
          simp only [keepE, q] at p
          exact p B H v (.refl B) r (r.slotD q h')
        | m f =>
          simp only [keepE, q] at p
          obtain ⟨B', le, r', hd⟩ := r.freezeSlot q h'
          exact p B' H v le r' hd
theorem KD.up {B B' : Bs} {fs : Fs} {σ : Sg} {Q : VK} {x : D} {st : MS} (h : KD c σ B fs Q x st) (l : B.le B') : KD c σ B' fs Q x st := fun B'' H' v l' => h B'' H' v (l.trans l')
theorem KE.up {B B' : Bs} {fs : Fs} {σ : Sg} {Q : VK} {x : E1} {st : MS} (h : KE c σ B fs Q x st) (l : B.le B') : KE c σ B' fs Q x st := fun B'' H' v l' => h B'' H' v (l.trans l')
theorem KX.up {B B' : Bs} {fs : Fs} {σ : Sg} {Q : VK} {x : EX} {st : MS} (h : KX c σ B fs Q x st) (l : B.le B') : KX c σ B' fs Q x st := by
  cases x with
  | e e => exact fun B'' H' v l' => h B'' H' v (l.trans l')
  | f fr => exact fun B'' H' v l' => h B'' H' v (l.trans l')
theorem KT.up {B B' : Bs} {fs : Fs} {σ : Sg} {Q : Bool → Hp → Prop} {x : Bool} {st : MS} (h : KT c σ B fs Q x st) (l : B.le B') : KT c σ B' fs Q x st := fun B'' H' l' => h B'' H' (l.trans l')
theorem KDs.up {B B' : Bs} {fs : Fs} {σ : Sg} {Q : List V → Hp → Prop} {x : List D} {st : MS} (h : KDs c σ B fs Q x st) (l : B.le B') : KDs c σ B' fs Q x st := fun B'' H' v l' => h B'' H' v (l.trans l')
/-- kept -/
@[simp ↓] def mKeep (m : Mo E1) (st : MS) : Rs D := (m st).then keepE
@[simp ↓] def mKeepX (m : Mo EX) (st : MS) : Rs D := (m st).then keepX
theorem de_keep {m : Mo E1} (h : EE X c W e m) : DE X c W e (mKeep m) := ⟨peImp h.pe fun σ H Q ⟨B, st, fs, r, p⟩ => ⟨B, st, fs, r, (Post.bind p).up (.refl B) fun x st' k B' H' v l r' i => keepE_ok r' i (k.up l fun _ _ q => q.up l)⟩⟩
theorem de_keepX {m : Mo EX} (h : GE X c W e m) : DE X c W e (mKeepX m) := ⟨peImp h.pe fun σ H Q ⟨B, st, fs, r, p⟩ => ⟨B, st, fs, r, (Post.bind p).up (.refl B) fun x st' k => by
  cases x with
  | e e => exact fun B' H' v l r' i => keepE_ok r' i (k.up l fun _ _ q => q.up l)
  | f fr =>
    intro B' H' a l r'
    obtain ⟨B2, le, r2, hd⟩ := r'.freeze
    exact k B2 H' _ (l.trans le) r2 hd⟩⟩
@[simp ↓] def mDat (m : Mo D) (st : MS) : Rs E1 := (m st).then fun x st => .ok (.d x) st
theorem ee_dat {m : Mo D} (h : DE X c W e m) : EE X c W e (mDat m) := ⟨peImp h.pe fun σ H Q ⟨B, st, fs, r, p⟩ => ⟨B, st, fs, r, (Post.bind p).up (.refl B) fun x st' k B' H' v l r' i => k B' H' v l r' i⟩⟩
theorem de_dat {m : Mo D} (h : EE X c W e (mDat m)) : DE X c W e m := ⟨peImp h.pe fun σ H Q ⟨B, st, fs, r, p⟩ => ⟨B, st, fs, r, by
  unfold mDat
  cases q : m st with
  | ok x s =>
    rw [q] at p
    exact p
  | ex x as s =>
    rw [q] at p
    exact p
  | bad =>
    rw [q] at p
    exact p⟩⟩
@[simp ↓] def mX (m : Mo E1) (st : MS) : Rs EX := (m st).then fun x st => .ok (.e x) st
theorem ge_e {m : Mo E1} (h : EE X c W e m) : GE X c W e (mX m) := ⟨peImp h.pe fun σ H Q ⟨B, st, fs, r, p⟩ => ⟨B, st, fs, r, (Post.bind p).up (.refl B) fun x st' k B' H' v l r' i => k B' H' v l r' i⟩⟩
/-- frozen at once where fresh -/
@[simp ↓] def mFz (m : Mo EX) (st : MS) : Rs E1 := (m st).then fun x st => match x with
  | .e e => .ok e st
  | .f fr => .ok (.d fr.toD) st
theorem ee_fz {m : Mo EX} (h : GE X c W e m) : EE X c W e (mFz m) := ⟨peImp h.pe fun σ H Q ⟨B, st, fs, r, p⟩ => ⟨B, st, fs, r, (Post.bind p).up (.refl B) fun x st' k => by
  cases x with
  | e e => exact fun B' H' v l r' i => k B' H' v l r' i
  | f fr =>
    intro B' H' a l r'
    obtain ⟨B2, le, r2, hd⟩ := r'.freeze
    exact k B2 H' _ (l.trans le) r2 hd⟩⟩
/-! ### names and constants -/
@[simp ↓] def mVar (i : Nat) (st : MS) : Rs E1 := match st.sl[i]? with
  | some (some (.d x)) => .ok (.d x) st
  | some (some (.m _)) => .ok (.s i) st
  | _ => .bad
@[simp ↓] def mC (x : D) (st : MS) : Rs E1 := .ok (.d x) st
theorem ee_var [g : Gd X c] (i : Nat) {x : Str} (hN : X.N[i]? = some x) (hv : Vis X.env.scope x) (hd : (x == ("__debug__" : Str)) = false := by decide) (hcd : (x == ("__classdict__" : Str)) = false := by decide) : EE X c W (.Name x pos) (mVar i) :=
  ⟨peImp (pe_var hN hv hd hcd) fun σ H Q ⟨B, st, fs, r, p⟩ => by
    have hil : i < σ.length := by
      rw [r.len, g.nn]
      exact (List.getElem?_eq_some_iff.mp hN).1
    unfold mVar at p
    split at p
    · rename_i y e
      obtain ⟨ad, τ, h1, h2, h3⟩ := r.sl
      obtain ⟨w, e2, k⟩ := h3 i _ e
      rw [List.getElem?_append_left hil] at e2
      exact ⟨w, e2, p B H w (.refl B) r k⟩
    · rename_i f e
      obtain ⟨ad, τ, h1, h2, h3⟩ := r.sl
      obtain ⟨w, e2, k⟩ := h3 i _ e
      rw [List.getElem?_append_left hil] at e2
      exact ⟨w, e2, p B H w (.refl B) r e2⟩
    · exact p.elim⟩
theorem ee_c {v : V} {x : D} (h : PE X e (tC v)) (hv : ∀ n B, IsD n B x v) : EE X c W e (mC x) := ⟨peImp h fun σ H Q ⟨B, st, fs, r, p⟩ => p B H v (.refl B) r (hv _ _)⟩
theorem ee_int {i : Int} {j : Nat} : EE X c W (.Constant (.int i) j pos) (mC (.int i)) := ee_c pe_int fun _ _ => rfl
theorem ee_bl {b : Bool} {j : Nat} : EE X c W (.Constant (.bool b) j pos) (mC (.bl b)) := ee_c pe_bl fun _ _ => rfl
theorem ee_non {j : Nat} : EE X c W (.Constant .none j pos) (mC .non) := ee_c pe_non fun _ _ => rfl
theorem ee_str {x : Str} {j : Nat} : EE X c W (.Constant (.str x) j pos) (mC (.str x)) := ee_c pe_str fun _ _ => rfl
/-! ### two places, one place -/
def Ok2 (X : Cx) (c : Cn) (f : Value → Value → Sem Value) (op : D → D → Option D) : Prop :=
  ∃ r : R2, OpR X f r ∧ ∀ (B : Bs) (σ : Sg) (H : Hp) (st : MS) (fs : Fs) (x y : V) (a b d : D) (Q : VK), Rel c B σ H st fs → VD c.n B H a x → VD c.n B H b y → op a b = some d → KD c σ B fs Q d st → r x y H Q
def Ok1 (X : Cx) (c : Cn) (f : Value → Sem Value) (op : D → Option D) : Prop :=
  ∃ r : V → Hp → VK → Prop, UnR X f r ∧ ∀ (B : Bs) (σ : Sg) (H : Hp) (st : MS) (fs : Fs) (x : V) (a d : D) (Q : VK), Rel c B σ H st fs → VD c.n B H a x → op a = some d → KD c σ B fs Q d st → r x H Q
theorem Ok2.or {f : Value → Value → Sem Value} {op op' : D → D → Option D} (h : Ok2 X c f op) (h' : Ok2 X c f op') : Ok2 X c f (fun x y => (op x y).or (op' x y)) := by
  obtain ⟨r, h1, h2⟩ := h
  obtain ⟨r', h1', h2'⟩ := h'
  refine ⟨_, h1.or h1', fun B σ H st fs x y a b d Q R va vb e k => ?_⟩
  cases q : op a b with
  | some d' =>
    have e' : (some d').or (op' a b) = some d := by rw [← q]; exact e
    cases (show some d' = some d from e')
    exact .inl (h2 B σ H st fs x y a b _ Q R va vb q k)
  | none =>
    have e' : (none : Option D).or (op' a b) = some d := by rw [← q]; exact e
    exact .inr (h2' B σ H st fs x y a b _ Q R va vb (by simpa using e') k)
@[simp ↓] def mOp2 (op : D → D → Option D) (ma mb : Mo E1) (st : MS) : Rs E1 := (ma st).then fun a s1 => (mb s1).then fun b s2 => opt (match val a s2, val b s2 with
  | some x, some y => (op x y).map E1.d
  | _, _ => none) s2
@[simp ↓] def mOp1 (op : D → Option D) (ma : Mo E1) (st : MS) : Rs E1 := (ma st).then fun a s1 => opt (((val a s1).bind op).map E1.d) s1
theorem op2_go {f : Value → Value → Sem Value} {op : D → D → Option D} {r : R2} {ma mb : Mo E1} {σ : Sg} {H : Hp} {Q : VK}
    (hr : ∀ (B : Bs) (σ : Sg) (H : Hp) (st : MS) (fs : Fs) (x y : V) (a b d : D) (Q : VK), Rel c B σ H st fs → VD c.n B H a x → VD c.n B H b y → op a b = some d → KD c σ B fs Q d st → r x y H Q)
    (h : rE c W (mOp2 op ma mb) σ H Q) : rE c W ma σ H fun x H1 => rE c W mb σ H1 fun y H2 => r x y H2 Q := by
  obtain ⟨B, st, fs, R, p⟩ := h
  refine ⟨B, st, fs, R, (Post.bind p).up (.refl B) fun a s1 k B1 H1 v1 l1 R1 i1 => ?_⟩
  refine ⟨B1, s1, fs, R1, (Post.bind k).up l1 fun b s2 k2 B2 H2 v2 l2 R2 i2 => ?_⟩
  split at k2
  · rename_i x y ex ey
    cases q : op x y with
    | some d =>
      rw [q] at k2
      exact hr B2 σ H2 s2 fs v1 v2 x y d Q R2 (val_ok R2 (i1.mono l2) ex) (val_ok R2 i2 ey) q fun B' H' v l r' i => k2 B' H' v ((l1.trans l2).trans l) r' i
    | none =>
      rw [q] at k2
      exact k2.elim
  · exact k2.elim
theorem ee_op2 {o : Operator} {op : D → D → Option D} {ma mb : Mo E1} (ho : Ok2 X c (binaryOp o) op) (ha : EE X c W a ma) (hb : EE X c W b mb) : EE X c W (.BinOp a o b pos) (mOp2 op ma mb) := by
  obtain ⟨r, h1, h2⟩ := ho
  exact ⟨peImp (pe_op h1 ha.pe hb.pe) fun σ H Q h => op2_go (f := binaryOp o) h2 h⟩
theorem ee_op1 {o : UnaryOp} {op : D → Option D} {ma : Mo E1} (ho : Ok1 X c (unaryOp o) op) (ha : EE X c W a ma) : EE X c W (.UnaryOp o a pos) (mOp1 op ma) := by
  obtain ⟨r, h1, h2⟩ := ho
  refine ⟨peImp (pe_un h1 ha.pe) fun σ H Q ⟨B, st, fs, R, p⟩ => ⟨B, st, fs, R, (Post.bind p).up (.refl B) fun x s1 k B1 H1 v1 l1 R1 i1 => ?_⟩⟩
  cases q : val x s1 with
  | none =>
    rw [q] at k
    exact k.elim
  | some y =>
    rw [q] at k
    cases q2 : op y with
    | none =>
      simp only [Option.bind_some, q2, Option.map_none] at k
      exact k.elim
    | some d =>
      simp only [Option.bind_some, q2, Option.map_some] at k
      exact h2 B1 σ H1 s1 fs v1 y d Q R1 (val_ok R1 i1 q) q2 fun B' H' v l r' i => k B' H' v (l1.trans l) r' i
theorem ee_cmp {o : CmpOp} {op : D → D → Option D} {ma mb : Mo E1} (ho : Ok2 X c (compareOp o) op) (ha : EE X c W a ma) (hb : EE X c W b mb) (hm : behindInMarks o b = false) : EE X c W (.Compare a [o] [b] pos) (mOp2 op ma mb) := by
  obtain ⟨r, h1, h2⟩ := ho
  exact ⟨peImp (pe_cmpR h1 ha.pe hb.pe hm) fun σ H Q h => op2_go (f := compareOp o) h2 h⟩
/-! ### ints -/
theorem ok2_int0 {f : Value → Value → Sem Value} {g : Int → Int → V} {op : D → D → Option D} (h : OpR X f (rI0 g)) (hop : ∀ a b d, op a b = some d → ∃ i j, a = .int i ∧ b = .int j ∧ ∀ n B, IsD n B d (g i j)) : Ok2 X c f op :=
  ⟨_, h, fun B σ H st fs x y a b d Q R va vb e k => by
    obtain ⟨i, j, rfl, rfl, hd⟩ := hop a b d e
    exact ⟨i, j, va, vb, k B H _ (.refl B) R (hd _ _)⟩⟩
theorem ok2_int {f : Value → Value → Sem Value} {C : Int → Int → Prop} {g : Int → Int → V} {op : D → D → Option D} (h : OpR X f (rI C g)) (hop : ∀ a b d, op a b = some d → ∃ i j, a = .int i ∧ b = .int j ∧ C i j ∧ ∀ n B, IsD n B d (g i j)) : Ok2 X c f op :=
  ⟨_, h, fun B σ H st fs x y a b d Q R va vb e k => by
    obtain ⟨i, j, rfl, rfl, hc, hd⟩ := hop a b d e
    exact ⟨i, j, va, vb, hc, k B H _ (.refl B) R (hd _ _)⟩⟩
/-- from ints to an int -/
@[simp] def iI (g : Int → Int → Int) : D → D → Option D
  | .int i, .int j => some (.int (g i j))
  | _, _ => none
@[simp] def iB (g : Int → Int → Bool) : D → D → Option D
  | .int i, .int j => some (.bl (g i j))
  | _, _ => none
@[simp] def iC (C : Int → Int → Bool) (g : Int → Int → Int) : D → D → Option D
  | .int i, .int j => if C i j then some (.int (g i j)) else none
  | _, _ => none
theorem iI_some {g : Int → Int → Int} (a b d : D) (h : iI g a b = some d) : ∃ i j, a = .int i ∧ b = .int j ∧ ∀ n B, IsD n B d (V.int (g i j)) := by
  unfold iI at h
  split at h
  · cases h
    exact ⟨_, _, rfl, rfl, fun _ _ => rfl⟩
  · cases h
theorem iB_some {g : Int → Int → Bool} (a b d : D) (h : iB g a b = some d) : ∃ i j, a = .int i ∧ b = .int j ∧ ∀ n B, IsD n B d (V.bl (g i j)) := by
  unfold iB at h
  split at h
  · cases h
    exact ⟨_, _, rfl, rfl, fun _ _ => rfl⟩
  · cases h
theorem iC_some {C : Int → Int → Bool} {P : Int → Int → Prop} {g : Int → Int → Int} (hP : ∀ i j, C i j = true → P i j) (a b d : D) (h : iC C g a b = some d) : ∃ i j, a = .int i ∧ b = .int j ∧ P i j ∧ ∀ n B, IsD n B d (V.int (g i j)) := by
  unfold iC at h
  split at h
  · split at h
    · rename_i q
      cases h
      exact ⟨_, _, rfl, rfl, hP _ _ q, fun _ _ => rfl⟩
    · cases h
  · cases h
/-- a size at which products are reckoned -/
def sm (i : Int) : Bool := decide (i.natAbs < 2 ^ 100000)
def mulC (i j : Int) : Bool := decide (i.natAbs < 2 ^ 64) || decide (j.natAbs < 2 ^ 64) || (sm i && sm j)
def divC (_ j : Int) : Bool := decide (0 < j) && decide (j.natAbs < 2 ^ 9000)
def powC (i j : Int) : Bool := decide (0 ≤ j) && decide (j.natAbs ≤ 1000000) && decide (i.natAbs < 2 ^ 64)
def shlC (i j : Int) : Bool := decide (0 ≤ j) && decide (j.natAbs ≤ 1000000) && sm i
theorem log2_sm {i : Int} {k : Nat} (hk : 0 < k) (h : i.natAbs < 2 ^ k) : i.natAbs.log2 < k := PySem.Flt.log2_lt_of hk h
theorem mulC_ok (i j : Int) (h : mulC i j = true) : IntMulOk i j := by
  unfold mulC at h
  rw [Bool.or_eq_true, Bool.or_eq_true] at h
  rcases h with (h | h) | h
  · have h := of_decide_eq_true h
    exact (CMul.ok (.inl (by omega)))
  · have h := of_decide_eq_true h
    exact (CMul.ok (.inr (by omega)))
  · rw [Bool.and_eq_true] at h
    have h1 := of_decide_eq_true h.1
    have h2 := of_decide_eq_true h.2
    have g1 := log2_sm (by decide) h1
    have g2 := log2_sm (by decide) h2
    exact CMulW.ok (by unfold CMulW; omega)
theorem op_mulA : OpR X (binaryOp .Mult) (rI IntMulOk fun i j => .int (i * j)) := opI fun _ _ _ _ _ _ _ hc q => mul_int q hc
theorem ok_sub : Ok2 X c (binaryOp .Sub) (iI fun i j => i - j) := ok2_int0 op_sub iI_some
theorem ok_addI : Ok2 X c (binaryOp .Add) (iI fun i j => i + j) := ok2_int0 op_add iI_some
theorem ok_mulI : Ok2 X c (binaryOp .Mult) (iC mulC fun i j => i * j) := ok2_int op_mulA (iC_some mulC_ok)
theorem ok_div : Ok2 X c (binaryOp .FloorDiv) (iC divC fun i j => i / j) := ok2_int op_fdivW (iC_some fun i j h => by
  unfold divC at h
  rw [Bool.and_eq_true] at h
  exact ⟨of_decide_eq_true h.1, log2_sm (by decide) (of_decide_eq_true h.2)⟩)
theorem ok_mod : Ok2 X c (binaryOp .Mod) (iC (fun _ j => decide (0 < j)) fun i j => i % j) := ok2_int op_mod (iC_some fun i j h => of_decide_eq_true h)
theorem ok_pow : Ok2 X c (binaryOp .Pow) (iC powC fun i j => i ^ j.toNat) := ok2_int op_pow (iC_some fun i j h => by
  unfold powC at h
  rw [Bool.and_eq_true, Bool.and_eq_true] at h
  have h0 := of_decide_eq_true h.1.1
  have h2 := of_decide_eq_true h.1.2
  exact ⟨h0, by omega, of_decide_eq_true h.2⟩)
theorem ok_shl : Ok2 X c (binaryOp .LShift) (iC shlC fun i j => i * 2 ^ j.toNat) := ok2_int op_shlW (iC_some fun i j h => by
  unfold shlC at h
  rw [Bool.and_eq_true, Bool.and_eq_true] at h
  have h1 := of_decide_eq_true h.1.1
  have h2 := of_decide_eq_true h.1.2
  have h3 := PyProof.Rows.intBits_le (of_decide_eq_true h.2)
  refine ⟨h1, ?_⟩
  have e : (2 : Int) ^ 27 = 134217728 := by decide
  rw [e]
  omega)
theorem ok_shr : Ok2 X c (binaryOp .RShift) (iC (fun _ j => decide (0 ≤ j)) fun i j => i / 2 ^ j.toNat) := ok2_int op_shr (iC_some fun i j h => of_decide_eq_true h)
theorem ok_and : Ok2 X c (binaryOp .BitAnd) (iI Builtin.bitAnd) := ok2_int0 op_and iI_some
theorem ok_or : Ok2 X c (binaryOp .BitOr) (iI Builtin.bitOr) := ok2_int0 op_or iI_some
theorem ok_xor : Ok2 X c (binaryOp .BitXor) (iI Builtin.bitXor) := ok2_int0 op_xor iI_some
theorem ok_lt : Ok2 X c (compareOp .Lt) (iB fun i j => decide (i < j)) := ok2_int0 op_lt iB_some
theorem ok_le : Ok2 X c (compareOp .LtE) (iB fun i j => decide (i ≤ j)) := ok2_int0 op_le iB_some
theorem ok_gt : Ok2 X c (compareOp .Gt) (iB fun i j => decide (j < i)) := ok2_int0 op_gt iB_some
theorem ok_ge : Ok2 X c (compareOp .GtE) (iB fun i j => decide (j ≤ i)) := ok2_int0 op_ge iB_some
@[simp] def i1 (g : Int → Int) : D → Option D
  | .int i => some (.int (g i))
  | _ => none
theorem ok1_int {f : Value → Sem Value} {g : Int → Int} (h : UnR X f (rU fun i => .int (g i))) : Ok1 X c f (i1 g) := ⟨_, h, fun B σ H st fs x a d Q R va e k => by
  unfold i1 at e
  split at e
  · cases e
    exact ⟨_, va, k B H _ (.refl B) R rfl⟩
  · cases e⟩
theorem ok_neg : Ok1 X c (unaryOp .USub) (i1 fun i => -i) := ok1_int un_neg
theorem ok_inv : Ok1 X c (unaryOp .Invert) (i1 Builtin.bitNot) := ok1_int un_inv
/-! ### == of data -/
mutual
def toP : D → PyData
  | .non => .none
  | .bl b => .bool b
  | .int i => .int i
  | .str s => .str s
  | .tup ds => .tuple (toPs ds)
  | .lst ds => .list (toPs ds)
  | _ => .dict []
def toPs : List D → List PyData
  | [] => []
  | d :: ds => toP d :: toPs ds
end
mutual
theorem dp_of {n : Kn} {B : Bs} {H : Hp} (e : ∀ a o, B.H0 a = some o → H a = some o) : ∀ (d : D) (v : V), IsD n B d v → (toP d).canLay0 = true → Dp n.K H v (toP d)
  | .non, v, h, _ => by cases (show v = .non from h); exact .non
  | .bl b, v, h, _ => by cases (show v = .bl b from h); exact .bl b
  | .int b, v, h, _ => by cases (show v = .int b from h); exact .int b
  | .str b, v, h, _ => by cases (show v = .str b from h); exact .str b
  | .tup ds, v, h, q => by
    obtain ⟨a, vs, rfl, h2, h3⟩ := h
    exact .tup (sqT_mono e h2) (dps_of e ds vs h3 q)
  | .lst ds, v, h, q => by
    obtain ⟨a, vs, rfl, h2, h3⟩ := h
    exact .lst (.inl (rd_mono e h2)) (dps_of e ds vs h3 q)
  | .dct ks ds, v, h, q => by cases q
  | .dctT ks ds, v, h, q => by cases q
  | .ins c fs ds, v, h, q => by cases q
  | .live k, v, h, q => by cases q
  | .scr k, v, h, q => by cases q
theorem dps_of {n : Kn} {B : Bs} {H : Hp} (e : ∀ a o, B.H0 a = some o → H a = some o) : ∀ (ds : List D) (vs : List V), IsDs n B ds vs → PyData.canLayAll0 (toPs ds) = true → DpAll n.K H vs (toPs ds)
  | [], vs, h, _ => by cases (show vs = [] from h); exact .nil
  | d :: ds, vs, h, q => by
    obtain ⟨v, r, rfl, h2, h3⟩ := h
    have q' : ((toP d).canLay0 && PyData.canLayAll0 (toPs ds)) = true := q
    rw [Bool.and_eq_true] at q'
    exact .cons (dp_of e d v h2 q'.1) (dps_of e ds r h3 q'.2)
end
theorem dp_view {n : Kn} {B : Bs} {H : Hp} (e : ∀ a o, B.H0 a = some o → H a = some o) {d : D} {v : V} (h : VD n B H d v) (q : (toP d).canLay0 = true) : Dp n.K H v (toP d) := by
  cases d with
  | lst ds =>
    obtain ⟨a, vs, rfl, h2, h3⟩ := h
    exact .lst (.inl h2) (dps_of e ds vs h3 q)
  | tup ds =>
    obtain ⟨a, vs, rfl, h2, h3⟩ := h
    exact .tup (sqT_mono e h2) (dps_of e ds vs h3 q)
  | non => exact dp_of e .non v h q
  | bl b => exact dp_of e (.bl b) v h q
  | int b => exact dp_of e (.int b) v h q
  | str b => exact dp_of e (.str b) v h q
  | dct ks ds => cases q
  | dctT ks ds => cases q
  | ins c fs ds => cases q
  | live k => cases q
  | scr k => cases q
def shp (d : D) : Bool := SeqAt.shaped (toP d)
def eqD (x y : D) : Bool := PyData.eqv (toP x) (toP y)
def fEq (x y : D) : Option D := if shp x && shp y then some (.bl (eqD x y)) else none
def fNe (x y : D) : Option D := if shp x && shp y then some (.bl (!eqD x y)) else none
theorem ok_eq [g : Gd X c] (hu : X.A.units + 64 < cLine) : Ok2 X c (compareOp .Eq) fEq := ⟨_, op_eqD hu, fun B σ H st fs x y a b d Q R va vb e k => by
  unfold fEq at e
  split at e
  · rename_i q
    rw [Bool.and_eq_true] at q
    cases e
    have hK : c.n.K = X.K := by rw [g.n]
    refine ⟨toP a, toP b, hK ▸ dp_view R.lv.sub va (SeqAt.canLay_of_shaped q.1), hK ▸ dp_view R.lv.sub vb (SeqAt.canLay_of_shaped q.2), q.1, q.2, k B H _ (.refl B) R rfl⟩
  · cases e⟩
theorem ok_ne [g : Gd X c] (hu : X.A.units + 64 < cLine) : Ok2 X c (compareOp .NotEq) fNe := ⟨_, op_neD hu, fun B σ H st fs x y a b d Q R va vb e k => by
  unfold fNe at e
  split at e
  · rename_i q
    rw [Bool.and_eq_true] at q
    cases e
    have hK : c.n.K = X.K := by rw [g.n]
    refine ⟨toP a, toP b, hK ▸ dp_view R.lv.sub va (SeqAt.canLay_of_shaped q.1), hK ▸ dp_view R.lv.sub vb (SeqAt.canLay_of_shaped q.2), q.1, q.2, k B H _ (.refl B) R rfl⟩
  · cases e⟩
/-! ### tests, and, or, not, if -/
@[simp] def asB : D → Option Bool
  | .bl b => some b
  | _ => none
@[simp ↓] def mTest (m : Mo E1) (st : MS) : Rs Bool := (m st).then fun e s => opt ((val e s).bind asB) s
theorem val_bl {B : Bs} {σ : Sg} {H : Hp} {st : MS} {fs : Fs} {e : E1} {b : Bool} {v : V} (r : Rel c B σ H st fs) (i : IsE c.n B σ v e) (h : (val e st).bind asB = some b) : v = .bl b := by
  cases q : val e st with
  | none => rw [q] at h; cases h
  | some x =>
    rw [q] at h
    cases x with
    | bl b' =>
      have h' : some b' = some b := h
      cases h'
      exact val_ok r i q
    | _ => cases h
theorem test_go {m : Mo E1} {t : TE} {σ : Sg} {H : Hp} {Q : Bool → Hp → Prop} (h : rT c W (mTest m) σ H Q) : rE c W m σ H fun x H1 => ∃ k, x = .bl k ∧ Q k H1 := by
  obtain ⟨B, st, fs, R, p⟩ := h
  refine ⟨B, st, fs, R, (Post.bind p).up (.refl B) fun e s1 k B1 H1 v1 l1 R1 i1 => ?_⟩
  cases q : (val e s1).bind asB with
  | none =>
    rw [q] at k
    exact k.elim
  | some b =>
    rw [q] at k
    exact ⟨b, val_bl R1 i1 q, k B1 H1 l1 R1⟩
/-- by its value (a True or False): anything but and, or, not, a comparison -/
theorem te_val {m : Mo E1} (h : EE X c W e m) (he : ∀ whole, isTrue e X.env whole = (do let v ← whole; standAt e.pos; holding [v] (truthy v)) := by intro _; rfl) : TEs X c W e (mTest m) :=
  ⟨ptImp (pt_val h.pe he) fun σ H Q h => test_go (t := fun _ _ _ => True) h⟩
theorem te_cmp {o : CmpOp} {op : D → D → Option D} {ma mb : Mo E1} (ho : Ok2 X c (compareOp o) op) (ha : EE X c W a ma) (hb : EE X c W b mb) (hm : behindInMarks o b = false) : TEs X c W (.Compare a [o] [b] pos) (mTest (mOp2 op ma mb)) := by
  obtain ⟨r, h1, h2⟩ := ho
  exact ⟨ptImp (pt_cmpR h1 ha.pe hb.pe hm) fun σ H Q h => op2_go (f := compareOp o) h2 (test_go (t := fun _ _ _ => True) h)⟩
@[simp ↓] def mAnd (ma mb : Mo Bool) (st : MS) : Rs Bool := (ma st).then fun b s => if b then mb s else .ok false s
@[simp ↓] def mOr (ma mb : Mo Bool) (st : MS) : Rs Bool := (ma st).then fun b s => if b then .ok true s else mb s
@[simp ↓] def mNot (ma : Mo Bool) (st : MS) : Rs Bool := (ma st).then fun b s => .ok (!b) s
/-- a chain of and, or -/
structure WE (X : Cx) (c : Cn) (W : WX) (e : Expr) (m : Mo Bool) : Prop where
  pw : PW X e (rT c W m)
theorem pwImp {X : Cx} {e : Expr} {t t' : TT} (h : PW X e t) (f : ∀ σ H Q, t' σ H Q → t σ H Q) : PW X e t' := ⟨fun w pins s σ H Q I q => h.run w pins s σ H Q I (f σ H Q q)⟩
variable {rest : List Expr}
theorem te_w {m : Mo Bool} (h : WE X c W e m) : TEs X c W e m := ⟨h.pw.pt⟩
theorem we_and1 {ma : Mo Bool} (ha : TEs X c W a ma) : WE X c W (.BoolOp .And [a] pos) ma := ⟨pw_and1 ha.pt⟩
theorem we_or1 {ma : Mo Bool} (ha : TEs X c W a ma) : WE X c W (.BoolOp .Or [a] pos) ma := ⟨pw_or1 ha.pt⟩
theorem we_and {ma mb : Mo Bool} (ha : TEs X c W a ma) (hb : WE X c W (.BoolOp .And (b :: rest) pos) mb) : WE X c W (.BoolOp .And (a :: b :: rest) pos) (mAnd ma mb) :=
  ⟨pwImp (pw_and ha.pt hb.pw) fun σ H Q ⟨B, st, fs, R, p⟩ => ⟨B, st, fs, R, (Post.bind p).up (.refl B) fun x s1 k B1 H1 l1 R1 => by
    cases x with
    | true =>
      rw [if_pos rfl]
      exact ⟨B1, s1, fs, R1, Post.up (show Post c W σ B (mb s1) (KT c σ B fs Q) from k) l1 fun _ _ q => q.up l1⟩
    | false =>
      rw [if_neg Bool.false_ne_true]
      exact k B1 H1 l1 R1⟩⟩
theorem we_or {ma mb : Mo Bool} (ha : TEs X c W a ma) (hb : WE X c W (.BoolOp .Or (b :: rest) pos) mb) : WE X c W (.BoolOp .Or (a :: b :: rest) pos) (mOr ma mb) :=
  ⟨pwImp (pw_or ha.pt hb.pw) fun σ H Q ⟨B, st, fs, R, p⟩ => ⟨B, st, fs, R, (Post.bind p).up (.refl B) fun x s1 k B1 H1 l1 R1 => by
    cases x with
    | true =>
      rw [if_pos rfl]
      exact k B1 H1 l1 R1
    | false =>
      rw [if_neg Bool.false_ne_true]
      exact ⟨B1, s1, fs, R1, Post.up (show Post c W σ B (mb s1) (KT c σ B fs Q) from k) l1 fun _ _ q => q.up l1⟩⟩⟩
theorem te_not {ma : Mo Bool} (ha : TEs X c W a ma) : TEs X c W (.UnaryOp .Not a pos) (mNot ma) :=
  ⟨ptImp (pt_not ha.pt) fun σ H Q ⟨B, st, fs, R, p⟩ => ⟨B, st, fs, R, (Post.bind p).up (.refl B) fun x s1 k B1 H1 l1 R1 => k B1 H1 l1 R1⟩⟩
/-- as values -/
@[simp ↓] def mAndV (ma mb : Mo E1) (st : MS) : Rs E1 := (mTest ma st).then fun b s => if b then mb s else .ok (.d (.bl false)) s
@[simp ↓] def mOrV (ma mb : Mo E1) (st : MS) : Rs E1 := (mTest ma st).then fun b s => if b then .ok (.d (.bl true)) s else mb s
@[simp ↓] def mNotV (ma : Mo E1) (st : MS) : Rs E1 := (mTest ma st).then fun b s => .ok (.d (.bl (!b))) s
theorem testV_go {m : Mo E1} {α : Type} {f : Bool → MS → Rs α} {σ : Sg} {B : Bs} {st : MS} {fs : Fs} {k : α → MS → Prop} (p : Post c W σ B ((mTest m st).then f) k) : Post c W σ B (m st) fun e s => ∀ B1 H1 v, B.le B1 → Rel c B1 σ H1 s fs → IsE c.n B1 σ v e → ∃ b, v = .bl b ∧ Post c W σ B (f b s) k := by
  unfold mTest at p
  cases q : m st with
  | bad => rw [q] at p; exact p
  | ex x as s => rw [q] at p; exact p
  | ok e s =>
    rw [q] at p
    intro B1 H1 v l1 R1 i1
    simp only [then_ok] at p
    cases q2 : (val e s).bind asB with
    | none =>
      rw [q2] at p
      exact p.elim
    | some b =>
      rw [q2] at p
      exact ⟨b, val_bl R1 i1 q2, p⟩
theorem ee_one {op : BoolOp} {m : Mo E1} (h : EE X c W a m) : EE X c W (.BoolOp op [a] pos) m := ⟨pe_one h.pe⟩
theorem ee_and {ma mb : Mo E1} (ha : EE X c W a ma) (hb : EE X c W (.BoolOp .And (b :: rest) pos) mb) : EE X c W (.BoolOp .And (a :: b :: rest) pos) (mAndV ma mb) :=
  ⟨peImp (pe_and ha.pe hb.pe) fun σ H Q ⟨B, st, fs, R, p⟩ => ⟨B, st, fs, R, (testV_go p).up (.refl B) fun e s k B1 H1 v l1 R1 i1 => by
    obtain ⟨b, e2, k⟩ := k B1 H1 v l1 R1 i1
    refine ⟨b, e2, ?_⟩
    cases b with
    | true =>
      rw [if_pos rfl]
      exact ⟨B1, s, fs, R1, Post.up (show Post c W σ B (mb s) (KE c σ B fs Q) from k) l1 fun _ _ q => q.up l1⟩
    | false =>
      rw [if_neg Bool.false_ne_true]
      exact k B1 H1 _ l1 R1 rfl⟩⟩
theorem ee_or {ma mb : Mo E1} (ha : EE X c W a ma) (hb : EE X c W (.BoolOp .Or (b :: rest) pos) mb) : EE X c W (.BoolOp .Or (a :: b :: rest) pos) (mOrV ma mb) :=
  ⟨peImp (pe_or ha.pe hb.pe) fun σ H Q ⟨B, st, fs, R, p⟩ => ⟨B, st, fs, R, (testV_go p).up (.refl B) fun e s k B1 H1 v l1 R1 i1 => by
    obtain ⟨b, e2, k⟩ := k B1 H1 v l1 R1 i1
    refine ⟨b, e2, ?_⟩
    cases b with
    | true =>
      rw [if_pos rfl]
      exact k B1 H1 _ l1 R1 rfl
    | false =>
      rw [if_neg Bool.false_ne_true]
      exact ⟨B1, s, fs, R1, Post.up (show Post c W σ B (mb s) (KE c σ B fs Q) from k) l1 fun _ _ q => q.up l1⟩⟩⟩
theorem ee_not {ma : Mo E1} (ha : EE X c W a ma) : EE X c W (.UnaryOp .Not a pos) (mNotV ma) :=
  ⟨peImp (pe_not ha.pe) fun σ H Q ⟨B, st, fs, R, p⟩ => ⟨B, st, fs, R, (testV_go p).up (.refl B) fun e s k B1 H1 v l1 R1 i1 => by
    obtain ⟨b, e2, k⟩ := k B1 H1 v l1 R1 i1
    exact ⟨b, e2, k B1 H1 _ l1 R1 rfl⟩⟩⟩
@[simp ↓] def mIf {α : Type} (mt : Mo Bool) (ma mb : Mo α) (st : MS) : Rs α := (mt st).then fun b s => if b then ma s else mb s
theorem ee_if {t : Expr} {mt : Mo Bool} {ma mb : Mo E1} (ht : TEs X c W t mt) (ha : EE X c W a ma) (hb : EE X c W b mb) : EE X c W (.IfExp t a b pos) (mIf mt ma mb) :=
  ⟨peImp (pe_ifExp ht.pt ha.pe hb.pe) fun σ H Q ⟨B, st, fs, R, p⟩ => ⟨B, st, fs, R, (Post.bind p).up (.refl B) fun x s1 k B1 H1 l1 R1 => by
    cases x with
    | true =>
      rw [if_pos rfl]
      exact ⟨B1, s1, fs, R1, Post.up (show Post c W σ B (ma s1) (KE c σ B fs Q) from k) l1 fun _ _ q => q.up l1⟩
    | false =>
      rw [if_neg Bool.false_ne_true]
      exact ⟨B1, s1, fs, R1, Post.up (show Post c W σ B (mb s1) (KE c σ B fs Q) from k) l1 fun _ _ q => q.up l1⟩⟩⟩
theorem ge_if {t : Expr} {mt : Mo Bool} {ma mb : Mo EX} (ht : TEs X c W t mt) (ha : GE X c W a ma) (hb : GE X c W b mb) : GE X c W (.IfExp t a b pos) (mIf mt ma mb) :=
  ⟨peImp (pe_ifExp ht.pt ha.pe hb.pe) fun σ H Q ⟨B, st, fs, R, p⟩ => ⟨B, st, fs, R, (Post.bind p).up (.refl B) fun x s1 k B1 H1 l1 R1 => by
    cases x with
    | true =>
      rw [if_pos rfl]
      exact ⟨B1, s1, fs, R1, Post.up (show Post c W σ B (ma s1) (KX c σ B fs Q) from k) l1 fun _ _ q => q.up l1⟩
    | false =>
      rw [if_neg Bool.false_ne_true]
      exact ⟨B1, s1, fs, R1, Post.up (show Post c W σ B (mb s1) (KX c σ B fs Q) from k) l1 fun _ _ q => q.up l1⟩⟩⟩
/-- a < b < c -/
@[simp ↓] def mChain (op op' : D → D → Option D) (ma mb mc : Mo E1) (st : MS) : Rs E1 := (ma st).then fun a s1 => (mb s1).then fun b s2 => match val a s2, val b s2 with
  | some x, some y => (match op x y with
    | some (.bl true) => (mc s2).then fun z s3 => opt (match val b s3, val z s3 with
      | some y, some w => (op' y w).map E1.d
      | _, _ => none) s3
    | some (.bl false) => .ok (.d (.bl false)) s2
    | _ => .bad)
  | _, _ => .bad
theorem ee_chain {cc : Expr} {o o' : CmpOp} {op op' : D → D → Option D} {ma mb mc : Mo E1} (ho : Ok2 X c (compareOp o) op) (ho' : Ok2 X c (compareOp o') op') (ha : EE X c W a ma) (hb : EE X c W b mb) (hc : EE X c W cc mc)
    (hm : lastMarks [o, o'] [b, cc] = false := by rfl) : EE X c W (.Compare a [o, o'] [b, cc] pos) (mChain op op' ma mb mc) := by
  obtain ⟨r, h1, h2⟩ := ho
  obtain ⟨r', h1', h2'⟩ := ho'
  refine ⟨peImp (pe_chain h1 h1' ha.pe hb.pe hc.pe hm) fun σ H Q ⟨B, st, fs, R, p⟩ => ?_⟩
  refine ⟨B, st, fs, R, (Post.bind p).up (.refl B) fun a s1 k B1 H1 v1 l1 R1 i1 => ?_⟩
  refine ⟨B1, s1, fs, R1, (Post.bind k).up l1 fun b s2 k2 B2 H2 v2 l2 R2 i2 => ?_⟩
  split at k2
  · rename_i x y ex ey
    split at k2
    · rename_i q
      refine h2 B2 σ H2 s2 fs v1 v2 x y _ _ R2 (val_ok R2 (i1.mono l2) ex) (val_ok R2 i2 ey) q fun B3 H3 v3 l3 R3 i3 => ⟨true, i3, ?_⟩
      rw [if_pos rfl]
      refine ⟨B3, s2, fs, R3, (Post.bind k2).up ((l1.trans l2).trans l3) fun z s3 k4 B4 H4 v4 l4 R4 i4 => ?_⟩
      split at k4
      · rename_i y' w ey' ew
        cases q2 : op' y' w with
        | some d =>
          rw [q2] at k4
          exact h2' B4 σ H4 s3 fs v2 v4 y' w d Q R4 (val_ok R4 ((i2.mono l3).mono l4) ey') (val_ok R4 i4 ew) q2 fun B' H' v l r' i => k4 B' H' v ((((l1.trans l2).trans l3).trans l4).trans l) r' i
        | none =>
          rw [q2] at k4
          exact k4.elim
      · exact k4.elim
    · rename_i q
      refine h2 B2 σ H2 s2 fs v1 v2 x y _ _ R2 (val_ok R2 (i1.mono l2) ex) (val_ok R2 i2 ey) q fun B3 H3 v3 l3 R3 i3 => ⟨false, i3, ?_⟩
      rw [if_neg Bool.false_ne_true]
      exact k2 B3 H3 _ ((l1.trans l2).trans l3) R3 rfl
    · exact k2.elim
  · exact k2.elim
end
end Y
namespace Y
open PySem PySem.Spec PyProof.Rows L2
section
variable {X : Cx} {c : Cn} {W : WX} {e a b : Expr} {es : List Expr} {pos : Pos}
/-! ### argument lists, displays -/
@[simp ↓] def mNil (st : MS) : Rs (List D) := .ok [] st
@[simp ↓] def mCons (m : Mo D) (ms : Mo (List D)) (st : MS) : Rs (List D) := (m st).then fun d s => (ms s).then fun ds s' => .ok (d :: ds) s'
theorem ae_nil : AE X c W [] mNil := ⟨paImp pa_nil fun σ H Q ⟨B, st, fs, r, p⟩ => p B H [] (.refl B) r rfl⟩
theorem ae_cons {m : Mo D} {ms : Mo (List D)} (h : DE X c W e m) (hs : AE X c W es ms) (hst : starEach (e :: es) X.env = (false, eval e X.env) :: starEach es X.env := by rfl) : AE X c W (e :: es) (mCons m ms) :=
  ⟨paImp (pa_cons h.pe hs.pa hst) fun σ H Q ⟨B, st, fs, r, p⟩ => ⟨B, st, fs, r, (Post.bind p).up (.refl B) fun d s k B1 H1 v l1 r1 i1 => ⟨B1, s, fs, r1, (Post.bind k).up l1 fun ds s' k2 B2 H2 vs l2 r2 i2 =>
    k2 B2 H2 (v :: vs) (l1.trans l2) r2 ⟨v, vs, rfl, IsD.mono l2 d v i1, i2⟩⟩⟩⟩
/-- the most items of a made list, tuple -/
def lim : Nat := 1000000
theorem lim_ok {n : Nat} (h : decide (n ≤ lim) = true) : n ≤ sizeLine := by
  have := of_decide_eq_true h
  rw [sizeLine_eq]
  unfold lim at this
  omega
@[simp ↓] def mTup (ms : Mo (List D)) (st : MS) : Rs E1 := (ms st).then fun ds s => if decide (ds.length ≤ lim) = true then .ok (.d (.tup ds)) s else .bad
@[simp ↓] def mLst (ms : Mo (List D)) (st : MS) : Rs EX := (ms st).then fun ds s => if decide (ds.length ≤ lim) = true then .ok (.f (.l ds)) s else .bad
theorem ee_tup {ms : Mo (List D)} {x1 : Nat} (h : AE X c W es ms) : EE X c W (.Tuple es x1 pos) (mTup ms) :=
  ⟨peImp (pe_tup h.pa) fun σ H Q ⟨B, st, fs, r, p⟩ => ⟨B, st, fs, r, (Post.bind p).up (.refl B) fun ds s k B1 H1 vs l1 r1 i1 => by
    split at k
    · rename_i q
      refine ⟨by rw [i1.length]; exact lim_ok q, fun a ha => ?_⟩
      obtain ⟨le, r2⟩ := r1.newD (o := .tup vs) ha
      exact k _ _ _ (l1.trans le) r2 ⟨a, vs, rfl, .inl (.inl upd_same), i1.mono le _ _⟩
    · exact k.elim⟩⟩
theorem ge_lst {ms : Mo (List D)} (h : AE X c W es ms) : GE X c W (.List es pos) (mLst ms) :=
  ⟨peImp (pe_lst h.pa) fun σ H Q ⟨B, st, fs, r, p⟩ => ⟨B, st, fs, r, (Post.bind p).up (.refl B) fun ds s k B1 H1 vs l1 r1 i1 => by
    split at k
    · rename_i q
      refine ⟨by rw [i1.length]; exact lim_ok q, fun a ha => ?_⟩
      exact k B1 _ a l1 (r1.newF (f := .l ds) ha ⟨vs, upd_same, i1⟩)
    · exact k.elim⟩⟩
/-! ### calls of built-ins by values: a result without a new thing, or a fresh one -/
inductive DR where
  | d (x : D) | f (fr : Fr)
@[simp] def DR.x : DR → EX
  | .d x => .e (.d x)
  | .f fr => .f fr
def OkC (X : Cx) (c : Cn) (f : Value) (op : List D → Option DR) : Prop :=
  ∃ r : List V → Hp → VK → Prop, CallR X f r ∧ ∀ (B : Bs) (σ : Sg) (H : Hp) (st : MS) (fs : Fs) (vs : List V) (ds : List D) (d : DR) (Q : VK), Rel c B σ H st fs → Paired (fun d v => VD c.n B H d v) ds vs → op ds = some d → KX c σ B fs Q d.x st → r vs H Q
/-- the arguments as they stand: not kept -/
structure VE (X : Cx) (c : Cn) (W : WX) (es : List Expr) (m : Mo (List E1)) : Prop where
  pa : PA X es (fun σ H Q => ∃ B st fs, Rel c B σ H st fs ∧ Post c W σ B (m st) fun es st => ∀ B' H' vs, B.le B' → Rel c B' σ H' st fs → Paired (fun e v => IsE c.n B' σ v e) es vs → Q vs H')
@[simp ↓] def vNil (st : MS) : Rs (List E1) := .ok [] st
@[simp ↓] def vCons (m : Mo E1) (ms : Mo (List E1)) (st : MS) : Rs (List E1) := (m st).then fun d s => (ms s).then fun ds s' => .ok (d :: ds) s'
theorem ve_nil : VE X c W [] vNil := ⟨paImp pa_nil fun σ H Q ⟨B, st, fs, r, p⟩ => p B H [] (.refl B) r .nil⟩
theorem ve_cons {m : Mo E1} {ms : Mo (List E1)} (h : EE X c W e m) (hs : VE X c W es ms) (hst : starEach (e :: es) X.env = (false, eval e X.env) :: starEach es X.env := by rfl) : VE X c W (e :: es) (vCons m ms) :=
  ⟨paImp (pa_cons h.pe hs.pa hst) fun σ H Q ⟨B, st, fs, r, p⟩ => ⟨B, st, fs, r, (Post.bind p).up (.refl B) fun d s k B1 H1 v l1 r1 i1 => ⟨B1, s, fs, r1, (Post.bind k).up l1 fun ds s' k2 B2 H2 vs l2 r2 i2 =>
    k2 B2 H2 (v :: vs) (l1.trans l2) r2 (.cons (i1.mono l2) i2)⟩⟩⟩
@[simp] def vals : List E1 → MS → Option (List D)
  | [], _ => some []
  | e :: es, st => match val e st with
    | some d => (match vals es st with
      | some ds => some (d :: ds)
      | none => none)
    | none => none
theorem vals_ok {B : Bs} {σ : Sg} {H : Hp} {st : MS} {fs : Fs} (r : Rel c B σ H st fs) : ∀ {es : List E1} {vs : List V} {ds : List D}, Paired (fun e v => IsE c.n B σ v e) es vs → vals es st = some ds → Paired (fun d v => VD c.n B H d v) ds vs
  | [], _, ds, .nil, h => by
    have h' : some [] = some ds := h
    cases h'
    exact .nil
  | e :: es, _, ds, .cons h1 h2, h => by
    unfold vals at h
    cases q : val e st with
    | none => rw [q] at h; cases h
    | some d =>
      cases q2 : vals es st with
      | none => rw [q, q2] at h; cases h
      | some ds' =>
        rw [q, q2] at h
        cases h
        exact .cons (val_ok r h1 q) (vals_ok r h2 q2)
@[simp ↓] def mCB (op : List D → Option DR) (ms : Mo (List E1)) (st : MS) : Rs EX := (ms st).then fun es s => opt (((vals es s).bind op).map DR.x) s
theorem cb_go {op : List D → Option DR} {r : List V → Hp → VK → Prop} {ms : Mo (List E1)} {σ : Sg} {H : Hp} {Q : VK}
    (hr : ∀ (B : Bs) (σ : Sg) (H : Hp) (st : MS) (fs : Fs) (vs : List V) (ds : List D) (d : DR) (Q : VK), Rel c B σ H st fs → Paired (fun d v => VD c.n B H d v) ds vs → op ds = some d → KX c σ B fs Q d.x st → r vs H Q)
    (h : rX c W (mCB op ms) σ H Q) : ∃ B st fs, Rel c B σ H st fs ∧ Post c W σ B (ms st) fun es st => ∀ B' H' vs, B.le B' → Rel c B' σ H' st fs → Paired (fun e v => IsE c.n B' σ v e) es vs → r vs H' Q := by
  obtain ⟨B, st, fs, R, p⟩ := h
  refine ⟨B, st, fs, R, (Post.bind p).up (.refl B) fun es s k B1 H1 vs l1 r1 i1 => ?_⟩
  cases q : vals es s with
  | none => rw [q] at k; exact k.elim
  | some ds =>
    rw [q] at k
    cases q2 : op ds with
    | none => simp only [Option.bind_some, q2, Option.map_none] at k; exact k.elim
    | some d =>
      simp only [Option.bind_some, q2, Option.map_some] at k
      exact hr B1 σ H1 s fs vs ds d Q r1 (vals_ok r1 i1 q) q2 (KX.up k l1)
theorem ge_callB {id : String} {x : Str} {p : Pos} {op : List D → Option DR} {ms : Mo (List E1)} (ho : OkC X c (.builtin id) op) (hg : Gl X x) (hm : X.mg x = none) (hv : bootBuiltins x = some (.builtin id)) (ha : VE X c W (e :: es) ms) (hn : x ≠ "__name__" := by decide) (hdb : (x == ("__debug__" : Str)) = false := by decide)
    (he : starEach (e :: es) X.env = (false, eval e X.env) :: starEach es X.env := by rfl) (hpl : (backTo pos (starEach es X.env)).any (·.1) = false := by rfl) : GE X c W (.Call (.Name x p) (e :: es) [] pos) (mCB op ms) := by
  obtain ⟨r, h1, h2⟩ := ho
  exact ⟨peImp (pe_callB h1 hg hm hv ha.pa hn hdb he hpl) fun σ H Q h => cb_go h2 h⟩
theorem ge_callTy {id : String} {x : Str} {p : Pos} {op : List D → Option DR} {ms : Mo (List E1)} (ho : OkC X c (.type id) op) (hg : Gl X x) (hm : X.mg x = none) (hv : bootBuiltins x = some (.type id)) (ha : VE X c W (e :: es) ms) (hn : x ≠ "__name__" := by decide) (hdb : (x == ("__debug__" : Str)) = false := by decide)
    (he : starEach (e :: es) X.env = (false, eval e X.env) :: starEach es X.env := by rfl) (hpl : (backTo pos (starEach es X.env)).any (·.1) = false := by rfl) : GE X c W (.Call (.Name x p) (e :: es) [] pos) (mCB op ms) := by
  obtain ⟨r, h1, h2⟩ := ho
  exact ⟨peImp (pe_callTy h1 hg hm hv ha.pa hn hdb he hpl) fun σ H Q h => cb_go h2 h⟩
/-! ### defs -/
inductive RV where
  | d (x : D) | f (fr : Fr)
inductive Rc where
  | ok (r : RV) (g : G) | ex (c : Str) (as : List D) (g : G) | bad
abbrev Fm := List D → G → Rc
def RetOk (n : Kn) (H0 : Hp) (B' : Bs) (H' : Hp) (v : V) : RV → Prop
  | .d x => IsD n B' x v
  | .f fr => ∃ a, v = .ref a ∧ FrOk n B' H' a fr ∧ B'.H0 a = none ∧ (∀ k, B'.A k ≠ some a) ∧ H0 a = none
/-- a def's promise: it does as its mirror -/
def SpF (n : Kn) (np : Nat) (F : Fm) : Sp := fun vs H Q E => vs.length = np ∧ ∃ B g ds, RelL n B H g ∧ IsDs n B ds vs ∧ (match F ds g with
  | .ok r g' => ∀ B' H' v, Ext B H B' H' → RelL n B' H' g' → RetOk n H B' H' v r → Q v H'
  | .ex x as g' => ∀ B' H' C d, Ext B H B' H' → RelL n B' H' g' → n.mg x = some (.ref C) → ExD n B' H' as d → E (.ref C) d H'
  | .bad => False)
@[simp ↓] def rcX (st : MS) : Rc → Rs EX
  | .ok (.d x) g => .ok (.e (.d x)) { st with g := g }
  | .ok (.f fr) g => .ok (.f fr) { st with g := g }
  | .ex x as g => .ex x as { st with g := g }
  | .bad => .bad
@[simp ↓] def mCall (F : Fm) (ms : Mo (List D)) (st : MS) : Rs EX := (ms st).then fun ds s => rcX s (F ds s.g)
/-- what is known of a def that is called -/
structure FnK (X : Cx) (c : Cn) (x : Str) (np : Nat) (F : Fm) : Prop where
  ex : ∃ (f : Addr) (fd : FuncData) (ps : List Str) (k : Nat), ps.length = np ∧ FnOk X.prog X.w X.K X.mg X.base (L2.CX X.prog X.w) k f fd ps (SpF ⟨X.K, X.mg⟩ np F) ∧ Room k X.A ∧ X.mg x = some (.ref f) ∧ PySem.W.keepIn X.K (.ref f) = true ∧ Binds X.K fd ps []
theorem call_go [g : Gd X c] {np : Nat} {F : Fm} {B : Bs} {σ : Sg} {H : Hp} {s : MS} {fs : Fs} {vs : List V} {ds : List D} {Q : VK} (r : Rel c B σ H s fs) (i : IsDs c.n B ds vs) (hl : ds.length = np) (p : Post c W σ B (rcX s (F ds s.g)) (KX c σ B fs Q)) :
    SpF ⟨X.K, X.mg⟩ np F vs H Q (L2.WE W σ) := by
  have hn := g.n
  refine ⟨by rw [i.length]; exact hl, B, s.g, ds, by rw [← hn]; exact r.lv, by rw [← hn]; exact i, ?_⟩
  cases q : F ds s.g with
  | bad => rw [q] at p; exact p
  | ex x as g' =>
    rw [q] at p
    intro B' H' C d x1 l1 hc hd
    rw [← hn] at l1 hd
    exact p B' H' C d x1.le (r.go x1 l1).drop (by rw [hn]; exact hc) hd
  | ok rv g' =>
    rw [q] at p
    intro B' H' v x1 l1 hv
    rw [← hn] at l1 hv
    cases rv with
    | d x => exact p B' H' v x1.le (r.go x1 l1) hv
    | f fr =>
      obtain ⟨a, rfl, h1, h2, h3, h4⟩ := hv
      refine p B' H' a x1.le ?_
      have q := r.go x1 l1
      obtain ⟨ad, τ, g1, g2, g3⟩ := r.sl
      obtain ⟨o, ho⟩ := h1.there
      obtain ⟨ad', τ', g1', g2', g3'⟩ := q.sl
      have nfree : ∀ b, Free c B H b → Free c B' H' b ∧ b ≠ a ∧ ∀ o, H b = some o → H' b = some o := fun b f => ⟨⟨by
        cases q : B'.H0 b with
        | none => rfl
        | some o =>
          rcases x1.n0 b o q with z | z
          · rw [f.h0] at z; cases z
          · exact absurd z f.th, fun k q => by
        rcases x1.nl k b q with z | z
        · exact f.nl k z
        · exact f.th z, f.hs, x1.tr b f.th⟩, fun e => f.th (by rw [e]; exact h4), fun o q => x1.fr b o q f.nl⟩
      refine ⟨q.ext, q.lv, q.len, ⟨ad, τ, g1, fun i b h => ?_, fun i sv h => ?_⟩, fun z hz => ?_, List.nodup_cons.mpr ⟨fun z => ?_, r.fnd⟩⟩
      · obtain ⟨f1, f2⟩ := g2 i b h
        refine ⟨(nfree b f1).1, fun z hz => ?_⟩
        rcases List.mem_cons.mp hz with rfl | hz
        · exact fun e => (nfree b f1).2.1 e.symm
        · exact f2 z hz
      · obtain ⟨v, e, k⟩ := g3 i sv h
        refine ⟨v, e, ?_⟩
        cases sv with
        | d y => exact IsD.mono x1.le y v k
        | m f' =>
          obtain ⟨b, e1, e2, e3⟩ := k
          exact ⟨b, e1, e2, e3.mono x1.le (nfree b (g2 i b e1).1).2.2⟩
      · rcases List.mem_cons.mp hz with rfl | hz
        · exact ⟨⟨h2, h3, r.ext.none h4, by rw [ho]; simp⟩, h1⟩
        · exact q.fr z hz
      · obtain ⟨y, hy, e⟩ := List.mem_map.mp z
        exact (nfree y.1 (r.fr y hy).1).2.1 e
theorem ge_call [g : Gd X c] [t : Tk X W] {x : Str} {p : Pos} {np : Nat} {F : Fm} {ms : Mo (List D)} (K : FnK X c x np F) (hg : Gl X x) (ha : AE X c W (e :: es) ms) (hl : (e :: es).length = np) (hdb : (x == ("__debug__" : Str)) = false := by decide)
    (he : starEach (e :: es) X.env = (false, eval e X.env) :: starEach es X.env := by rfl) (hpl : (backTo pos (starEach es X.env)).any (·.1) = false := by rfl) (hms : ∀ st ds s, ms st = .ok ds s → ds.length = np) :
    GE X c W (.Call (.Name x p) (e :: es) [] pos) (mCall F ms) := by
  obtain ⟨f, fd, ps, k, h1, h2, h3, h4, h5, h6⟩ := K.ex
  refine ⟨peImp (pe_callS (E := L2.WE W) h2 h3 hg h4 h5 h6 (L2.passAt t.tk) ha.pa hdb he hpl) fun σ H Q ⟨B, st, fs, r, p⟩ => ⟨B, st, fs, r, ?_⟩⟩
  have p' := Post.bind p
  cases q : ms st with
  | bad => rw [q] at p'; exact p'
  | ex x as s => rw [q] at p'; exact p'
  | ok ds s =>
    rw [q] at p'
    exact fun B1 H1 vs l1 r1 i1 => call_go r1 i1 (hms st ds s q) (Post.up p' l1 fun _ _ z => z.up l1)
theorem ge_call0 [g : Gd X c] [t : Tk X W] {x : Str} {p : Pos} {F : Fm} (K : FnK X c x 0 F) (hg : Gl X x) (hdb : (x == ("__debug__" : Str)) = false := by decide) :
    GE X c W (.Call (.Name x p) [] [] pos) (mCall F mNil) := by
  obtain ⟨f, fd, ps, k, h1, h2, h3, h4, h5, h6⟩ := K.ex
  refine ⟨⟨fun pins s σ H Q I ⟨B, st, fs, r, p⟩ => ?_⟩⟩
  refine wpAny_Call_Name_kw (ld_glob I hg h4 ?_ hdb)
  exact PySem.W.callWith_K0 I.kIn h5 (run_fnS (E := L2.WE W) (us := []) h2 h3 h6 (L2.passAt t.tk σ) I .nil (call_go (np := 0) (ds := []) r rfl rfl p))
theorem mCons_len {m : Mo D} {ms : Mo (List D)} {n : Nat} (h : ∀ st ds s, ms st = .ok ds s → ds.length = n) : ∀ st ds s, mCons m ms st = .ok ds s → ds.length = n + 1 := fun st ds s q => by
  unfold mCons at q
  cases q1 : m st with
  | bad => rw [q1] at q; cases q
  | ex x as s => rw [q1] at q; cases q
  | ok d s1 =>
    rw [q1] at q
    simp only [then_ok] at q
    cases q2 : ms s1 with
    | bad => rw [q2] at q; cases q
    | ex x as s => rw [q2] at q; cases q
    | ok ds' s2 =>
      rw [q2] at q
      simp only [then_ok] at q
      cases q
      simp [h _ _ _ q2]
theorem mNil_len : ∀ st ds s, mNil st = .ok ds s → ds.length = 0 := fun st ds s q => by
  cases q
  rfl
end
/-! ### statements -/
inductive RSt where
  | nx (st : MS) | rt (r : RV) (g : G) | bk (st : MS) | ct (st : MS) | ex (c : Str) (as : List D) (st : MS) | bad
abbrev MoS := MS → RSt
def PostS (c : Cn) (W : WX) (B : Bs) (r : RSt) (D : Ends) : Prop := match r with
  | .nx st => ∀ B' σ' H', B.le B' → Rel c B' σ' H' st [] → D.nx σ' H'
  | .bk st => ∀ B' σ' H', B.le B' → Rel c B' σ' H' st [] → D.bk σ' H'
  | .ct st => ∀ B' σ' H', B.le B' → Rel c B' σ' H' st [] → D.ct σ' H'
  | .rt r g => ∀ B' H' v, Ext c.Bst c.Hst B' H' → RelL c.n B' H' g → RetOk c.n c.Hst B' H' v r → D.rt v H'
  | .ex x as st => ∀ B' σ' H' C d, B.le B' → Rel c B' σ' H' st [] → c.n.mg x = some (.ref C) → ExD c.n B' H' as d → W (.ref C) d σ' H'
  | .bad => False
def rS (c : Cn) (W : WX) (m : MoS) : TS := fun D σ H => ∃ B st, Rel c B σ H st [] ∧ PostS c W B (m st) D
structure SE (X : Cx) (c : Cn) (W : WX) (s : Stmt) (m : MoS) : Prop where
  ps : PS X s (rS c W m)
structure SSE (X : Cx) (c : Cn) (W : WX) (s : List Stmt) (m : MoS) : Prop where
  ps : PSs X s (rS c W m)
theorem psImp {X : Cx} {s : Stmt} {t t' : TS} (h : PS X s t) (f : ∀ D σ H, t' D σ H → t D σ H) : PS X s t' := ⟨fun pins st σ H D I q => h.run pins st σ H D I (f D σ H q)⟩
theorem pssImp {X : Cx} {s : List Stmt} {t t' : TS} (h : PSs X s t) (f : ∀ D σ H, t' D σ H → t D σ H) : PSs X s t' := ⟨fun pins st σ H D I q => h.run pins st σ H D I (f D σ H q)⟩
theorem PostS.up {c : Cn} {W : WX} {B B' : Bs} {r : RSt} {D D' : Ends} (h : PostS c W B r D) (e : B.le B') (h1 : ∀ σ H, D.nx σ H → D'.nx σ H := by exact fun _ _ z => z) (h2 : ∀ σ H, D.bk σ H → D'.bk σ H := by exact fun _ _ z => z) (h3 : ∀ σ H, D.ct σ H → D'.ct σ H := by exact fun _ _ z => z) (h4 : ∀ σ H, D.rt σ H → D'.rt σ H := by exact fun _ _ z => z) : PostS c W B' r D' := by
  cases r with
  | nx st => exact fun B2 σ H l r => h1 _ _ (h B2 σ H (e.trans l) r)
  | bk st => exact fun B2 σ H l r => h2 _ _ (h B2 σ H (e.trans l) r)
  | ct st => exact fun B2 σ H l r => h3 _ _ (h B2 σ H (e.trans l) r)
  | rt r g => exact fun B2 H v x l q => h4 _ _ (h B2 H v x l q)
  | ex x as st => exact fun B2 σ H C d l => h B2 σ H C d (e.trans l)
  | bad => exact h
@[simp ↓] def Rs.st {α : Type} (r : Rs α) (f : α → MS → RSt) : RSt := match r with
  | .ok a st => f a st
  | .ex c as st => .ex c as st
  | .bad => .bad
@[simp] theorem st_ok {α : Type} (a : α) (st : MS) (f : α → MS → RSt) : (Rs.ok a st).st f = f a st := rfl
@[simp] theorem st_ex {α : Type} (c : Str) (as : List D) (st : MS) (f : α → MS → RSt) : (Rs.ex c as st : Rs α).st f = .ex c as st := rfl
@[simp] theorem st_bad {α : Type} (f : α → MS → RSt) : (Rs.bad : Rs α).st f = .bad := rfl
@[simp ↓] def RSt.seq (r : RSt) (f : MS → RSt) : RSt := match r with
  | .nx st => f st
  | r => r
@[simp] theorem seq_nx (st : MS) (f : MS → RSt) : (RSt.nx st).seq f = f st := rfl
@[simp] theorem seq_rt (r : RV) (g : G) (f : MS → RSt) : (RSt.rt r g).seq f = .rt r g := rfl
@[simp] theorem seq_bk (st : MS) (f : MS → RSt) : (RSt.bk st).seq f = .bk st := rfl
@[simp] theorem seq_ct (st : MS) (f : MS → RSt) : (RSt.ct st).seq f = .ct st := rfl
@[simp] theorem seq_ex (c : Str) (as : List D) (st : MS) (f : MS → RSt) : (RSt.ex c as st).seq f = .ex c as st := rfl
@[simp] theorem seq_bad (f : MS → RSt) : RSt.bad.seq f = .bad := rfl
theorem PostS.bind {α : Type} {c : Cn} {W : WX} {σ : Sg} {B : Bs} {r : Rs α} {f : α → MS → RSt} {D : Ends} (h : PostS c W B (r.st f) D) : Post c W σ B r fun a st => PostS c W B (f a st) D := by
  cases r with
  | ok a st => exact h
  | ex x as st => exact fun B' H' C d => h B' σ H' C d
  | bad => exact h
section
variable {X : Cx} {c : Cn} {W : WX} {e a b : Expr} {es : List Expr} {pos : Pos} {s : Stmt} {ss : List Stmt}
@[simp ↓] def mSkip (st : MS) : RSt := .nx st
@[simp ↓] def mSeq (m n : MoS) (st : MS) : RSt := (m st).seq n
theorem sse_nil : SSE X c W [] mSkip := ⟨pssImp pss_nil fun D σ H ⟨B, st, r, p⟩ => p B σ H (.refl B) r⟩
theorem seq_go {m n : MoS} {D : Ends} {σ : Sg} {H : Hp} {t : TS} (h : rS c W (mSeq m n) D σ H) : rS c W m { D with nx := rS c W n D } σ H := by
  obtain ⟨B, st, r, p⟩ := h
  refine ⟨B, st, r, ?_⟩
  unfold mSeq at p
  cases q : m st with
  | nx st' =>
    rw [q] at p
    exact fun B' σ' H' l r' => ⟨B', st', r', PostS.up (show PostS c W B (n st') D from p) l⟩
  | bk st' => rw [q] at p; exact p
  | ct st' => rw [q] at p; exact p
  | rt r g => rw [q] at p; exact p
  | ex x as st' => rw [q] at p; exact p
  | bad => rw [q] at p; exact p
theorem sse_cons {m n : MoS} (h : SE X c W s m) (h2 : SSE X c W ss n) : SSE X c W (s :: ss) (mSeq m n) := ⟨pssImp (pss_cons h.ps h2.ps) fun D σ H q => seq_go (t := fun _ _ _ => True) q⟩
theorem sse_one {m : MoS} (h : SE X c W s m) : SSE X c W [s] m := ⟨pss_one h.ps⟩
@[simp ↓] def mBreak (st : MS) : RSt := .bk st
@[simp ↓] def mCont (st : MS) : RSt := .ct st
@[simp ↓] def mBad (_ : MS) : RSt := .bad
theorem se_pass : SE X c W (.Pass pos) mSkip := ⟨psImp ps_pass fun D σ H ⟨B, st, r, p⟩ => p B σ H (.refl B) r⟩
theorem se_break : SE X c W (.Break pos) mBreak := ⟨psImp ps_break fun D σ H ⟨B, st, r, p⟩ => p B σ H (.refl B) r⟩
theorem se_cont : SE X c W (.Continue pos) mCont := ⟨psImp ps_continue fun D σ H ⟨B, st, r, p⟩ => p B σ H (.refl B) r⟩
/-- what is never come to -/
theorem se_bad : SE X c W s mBad := ⟨psImp ps_never fun D σ H ⟨B, st, r, p⟩ => p⟩
@[simp ↓] def mIfS (mt : Mo Bool) (m n : MoS) (st : MS) : RSt := (mt st).st fun b s => if b then m s else n s
theorem se_if {t : Expr} {xs ys : List Stmt} {mt : Mo Bool} {m n : MoS} (ht : TEs X c W t mt) (h1 : SSE X c W xs m) (h2 : SSE X c W ys n) : SE X c W (.If t xs ys pos) (mIfS mt m n) :=
  ⟨psImp (ps_if ht.pt h1.ps h2.ps) fun D σ H ⟨B, st, r, p⟩ => ⟨B, st, [], r, (PostS.bind p).up (.refl B) fun b s k B1 H1 l1 r1 => by
    cases b with
    | true =>
      rw [if_pos rfl]
      exact ⟨B1, s, r1, PostS.up (show PostS c W B (m s) D from k) l1⟩
    | false =>
      rw [if_neg Bool.false_ne_true]
      exact ⟨B1, s, r1, PostS.up (show PostS c W B (n s) D from k) l1⟩⟩⟩
@[simp ↓] def mDrop (m : Mo EX) (st : MS) : RSt := (m st).st fun _ s => .nx s
theorem se_expr {m : Mo EX} (h : GE X c W e m) (hs : swapsWith e none pos.line X.env = pure false := by rfl) : SE X c W (.Expr e pos) (mDrop m) :=
  ⟨psImp (ps_expr h.pe hs) fun D σ H ⟨B, st, r, p⟩ => ⟨B, st, [], r, (PostS.bind p).up (.refl B) fun x s k => by
    cases x with
    | e e => exact fun B1 H1 v l1 r1 i1 => k B1 σ H1 l1 r1
    | f fr => exact fun B1 H1 a l1 r1 => k B1 σ H1 l1 r1.drop⟩⟩
@[simp ↓] def retX : EX → MS → RSt
  | .e (.d x), s => .rt (.d x) s.g
  | .f fr, s => .rt (.f fr) s.g
  | .e (.s i), s => match s.sl[i]? with
    | some (some (.d x)) => .rt (.d x) s.g
    | some (some (.m f)) => .rt (.f f) s.g
    | _ => .bad
@[simp ↓] def mRet (m : Mo EX) (st : MS) : RSt := (m st).st retX
theorem ret_f {B : Bs} {σ : Sg} {H : Hp} {s : MS} {a : Addr} {f : Fr} {fs : Fs} (r : Rel c B σ H s ((a, f) :: fs)) : RetOk c.n c.Hst B H (.ref a) (.f f) := by
  obtain ⟨f1, f2⟩ := r.fr _ List.mem_cons_self
  exact ⟨a, rfl, f2, f1.h0, f1.nl, f1.hs⟩
theorem se_ret {m : Mo EX} (h : GE X c W e m) : SE X c W (.Return (some e) pos) (mRet m) :=
  ⟨psImp (ps_ret h.pe) fun D σ H ⟨B, st, r, p⟩ => ⟨B, st, [], r, (PostS.bind p).up (.refl B) fun x s k => by
    cases x with
    | f fr => exact fun B1 H1 a l1 r1 => k B1 H1 _ r1.ext r1.lv (ret_f r1)
    | e e =>
      intro B1 H1 v l1 r1 i1
      cases e with
      | d x => exact k B1 H1 _ r1.ext r1.lv i1
      | s i =>
        have i1' : σ[i]? = some (some v) := i1
        cases q : s.sl[i]? with
        | none => simp only [retX, q] at k; exact k.elim
        | some o =>
          cases o with
          | none => simp only [retX, q] at k; exact k.elim
          | some sv =>
            cases sv with
            | d y =>
              simp only [retX, q] at k
              exact k B1 H1 _ r1.ext r1.lv (r1.slotD q i1')
            | m f =>
              simp only [retX, q] at k
              obtain ⟨a, rfl, r2⟩ := r1.free q i1'
              exact k B1 H1 _ r2.ext r2.lv (ret_f r2)⟩⟩
@[simp ↓] def mRetN (st : MS) : RSt := .rt (.d .non) st.g
theorem se_retN : SE X c W (.Return none pos) mRetN := ⟨psImp ps_retN fun D σ H ⟨B, st, r, p⟩ => p B H _ r.ext r.lv rfl⟩
/-- name = value -/
@[simp ↓] def putX (i : Nat) : EX → MS → RSt
  | .f fr, s => .nx { s with sl := s.sl.set i (some (.m fr)) }
  | .e e, s => (keepE e s).st fun x s => .nx { s with sl := s.sl.set i (some (.d x)) }
@[simp ↓] def mSet (i : Nat) (m : Mo EX) (st : MS) : RSt := (m st).st (putX i)
theorem keepE_pt {B : Bs} {σ : Sg} {H : Hp} {st : MS} {fs : Fs} {e : E1} {v : V} {x : D} {s : MS} (r : Rel c B σ H st fs) (h : IsE c.n B σ v e) (p : keepE e st = .ok x s) : ∃ B', B.le B' ∧ Rel c B' σ H s fs ∧ IsD c.n B' x v := by
  have q := keepE_ok (W := fun _ _ _ _ => True) (Q := fun v' H' => v' = v ∧ H' = H → ∃ B', B.le B' ∧ Rel c B' σ H s fs ∧ IsD c.n B' x v) r h (by
    rw [p]
    exact fun B' H' v' l r' i ⟨e1, e2⟩ => ⟨B', l, by rw [← e2]; exact r', by rw [← e1]; exact i⟩)
  exact q ⟨rfl, rfl⟩
theorem keepE_ex {e : E1} {st : MS} {x : Str} {as : List D} {s : MS} : keepE e st ≠ .ex x as s := fun p => by
  cases e with
  | d y => cases p
  | s i =>
    cases q : st.sl[i]? with
    | none => simp [keepE, q] at p
    | some o =>
      cases o with
      | none => simp [keepE, q] at p
      | some sv => cases sv <;> simp [keepE, q] at p
theorem put_go {m : Mo EX} {i : Nat} {D : Ends} {σ : Sg} {H : Hp} (hi : i < c.nn) (h : rS c W (mSet i m) D σ H) : rX c W m σ H fun x H1 => D.nx (σ.set i (some x)) H1 := by
  obtain ⟨B, st, r, p⟩ := h
  refine ⟨B, st, [], r, (PostS.bind p).up (.refl B) fun x s k => ?_⟩
  cases x with
  | f fr => exact fun B1 H1 a l1 r1 => k B1 _ H1 l1 (r1.storeF (by rw [r1.len]; exact hi))
  | e e =>
    intro B1 H1 v l1 r1 i1
    cases q : keepE e s with
    | ok x s' =>
      obtain ⟨B2, l2, r2, hd⟩ := keepE_pt r1 i1 q
      simp only [putX, q, st_ok] at k
      exact k B2 _ H1 (l1.trans l2) (r2.store (by rw [r2.len]; exact hi) hd)
    | ex x as s' => exact absurd q keepE_ex
    | bad =>
      simp only [putX, q, st_bad] at k
      exact k.elim
theorem se_set [g : Gd X c] (i : Nat) {x : Str} {pos' : Pos} {m : Mo EX} (hi : X.N[i]? = some x) (hx : Loc X.env.scope x) (h : GE X c W e m) (hs : swapsWith e (some (.Name x pos')) pos.line X.env = pure false := by rfl)
    (hf : X.fn x = true ∨ X.env.scope.names.lookup x = some .local := by first | exact .inl rfl | exact .inr rfl | assumption) : SE X c W (.Assign [.Name x pos'] e pos) (mSet i m) :=
  ⟨psImp (ps_set g.nd hi hx h.pe hs hf) fun D σ H q => put_go (by rw [g.nn]; exact (List.getElem?_eq_some_iff.mp hi).1) q⟩
end
/-! ### a def from its body -/
@[simp] def startS (nn : Nat) (ds : List D) : List (Option SV) := ds.map (fun d => some (.d d)) ++ List.replicate (nn - ds.length) none
@[simp ↓] def fnM (nn : Nat) (m : MoS) (ds : List D) (g : G) : Rc := match m ⟨startS nn ds, g⟩ with
  | .rt r g' => .ok r g'
  | .nx st => .ok (.d .non) st.g
  | .ex x as st => .ex x as st.g
  | _ => .bad
theorem startS_get {nn : Nat} {ds : List D} {i : Nat} {sv : SV} (h : (startS nn ds)[i]? = some (some sv)) : ∃ d, ds[i]? = some d ∧ sv = .d d := by
  unfold startS at h
  by_cases hi : i < (ds.map fun d => some (SV.d d)).length
  · rw [List.getElem?_append_left hi, List.getElem?_map] at h
    cases q : ds[i]? with
    | none => rw [q] at h; cases h
    | some d =>
      rw [q] at h
      simp at h
      exact ⟨d, rfl, h.symm⟩
  · rw [List.getElem?_append_right (by omega)] at h
    have := List.mem_of_getElem? h
    rw [List.mem_replicate] at this
    cases this.2
theorem rel_start {n : Kn} {N : List Str} {B : Bs} {H : Hp} {g : G} {ds : List D} {vs : List V} (l : RelL n B H g) (i : IsDs n B ds vs) (hl : vs.length ≤ N.length) : Rel ⟨n, N.length, B, H⟩ B (L2.start N vs) H ⟨startS N.length ds, g⟩ [] := by
  refine ⟨.refl B H, l, ?_, ⟨fun _ => none, [], fun _ _ _ h => (nomatch h), fun _ _ h => (nomatch h), fun j sv h => ?_⟩, fun p hp => absurd hp (by simp), by simp⟩
  · unfold L2.start
    simp
    omega
  · obtain ⟨d, hd, rfl⟩ := startS_get h
    obtain ⟨v, hv, hi⟩ := i.get hd
    refine ⟨v, ?_, hi⟩
    rw [List.append_nil]
    unfold L2.start
    rw [List.getElem?_append_left (by rw [List.length_map]; exact (List.getElem?_eq_some_iff.mp hv).1), List.getElem?_map, hv]
    rfl
/-- what is wished of an exception in a def's body -/
abbrev WD (E : XK) : WX := fun cls d _ H => E cls d H
abbrev cxD (P : Program) (w : World) (K : PySem.W.Frag) (mg : Str → Option Value) (base : Heap) (N : List Str) (qual : Str) (sc : Scope) (f : Addr) (cdv : Value) (A : Around) (outer : List Env) (s : Shared) (H : Hp) (E : XK) : Cx :=
  cxOf (L2.CX P w) P w K mg base N qual sc f cdv A outer s H E
theorem fn_ok {P : Program} {w : World} {K : PySem.W.Frag} {mg : Str → Option Value} {base : Heap} {x qual : Str} {st : Stmt} {f : Addr} {fd : FuncData} {N ps : List Str} {k : Nat} {m : MoS}
    (F : Fun K x qual st f fd) (S : FnScope N ps (defScope st)) (hps : ps.length ≤ N.length)
    (body : ∀ (cdv : Value) (A : Around) (outer : List Env) (s : Shared) (H : Hp) (B : Bs) (E : XK), Room k (A.deeper (envOfC qual (defScope st) s.heap.objs.size f cdv)) →
      SSE (cxD P w K mg base N qual (defScope st) f cdv A outer s H E) ⟨⟨K, mg⟩, N.length, B, H⟩ (WD E) (defBody st) m) :
    FnOk P w K mg base (L2.CX P w) (k + 1) f fd ps (SpF ⟨K, mg⟩ ps.length (fnM N.length m)) := by
  refine F.okX S (fun vs H Q E h => h.1) fun cdv A outer s H vs Q E hr h => ?_
  obtain ⟨hl, B, g, ds, l, i, h⟩ := h
  refine ⟨_, (body cdv A outer s H B E hr).ps, B, ⟨startS N.length ds, g⟩, rel_start l i (by rw [hl]; exact hps), ?_⟩
  unfold fnM at h
  cases q : m ⟨startS N.length ds, g⟩ with
  | rt r g' => rw [q] at h; exact fun B' H' v x l' hv => h B' H' v x l' hv
  | nx st => rw [q] at h; exact fun B' σ' H' le r => h B' H' .non r.ext r.lv rfl
  | ex x as st => rw [q] at h; exact fun B' σ' H' C d le r hc hd => h B' H' C d r.ext r.lv hc hd
  | bk st => rw [q] at h; exact h.elim
  | ct st => rw [q] at h; exact h.elim
  | bad => rw [q] at h; exact h.elim
instance gdD {P : Program} {w : World} {K : PySem.W.Frag} {mg : Str → Option Value} {base : Heap} {N : List Str} {qual : Str} {sc : Scope} {f : Addr} {cdv : Value} {A : Around} {outer : List Env} {s : Shared} {H : Hp} {E : XK} {B : Bs} {Hs : Hp} [nd : Fact' N.Nodup] :
    Gd (cxD P w K mg base N qual sc f cdv A outer s H E) ⟨⟨K, mg⟩, N.length, B, Hs⟩ := ⟨rfl, rfl, nd.out, rfl⟩
end Y
namespace Y
open PySem PySem.Spec PyProof.Rows L2
/-- a fresh thing is written -/
theorem Rel.writeF {c : Cn} {B : Bs} {σ : Sg} {H : Hp} {st : MS} {a : Addr} {o : HO} {f f' : Fr} {fs : Fs} (r : Rel c B σ H st ((a, f) :: fs)) (hf : FrOk c.n B (upd H a o) a f') : Rel c B σ (upd H a o) st ((a, f') :: fs) := by
  obtain ⟨fa, _⟩ := r.fr (a, f) List.mem_cons_self
  have nd : a ∉ fs.map (·.1) ∧ (fs.map (·.1)).Nodup := List.nodup_cons.mp r.fnd
  have keep : ∀ b u, b ≠ a → H b = some u → upd H a o b = some u := fun b u hb h => by rw [upd_ne hb]; exact h
  have th : ∀ b, H b ≠ none → upd H a o b ≠ none := fun b h => by
    by_cases hb : b = a
    · rw [hb, upd_same]; simp
    · rw [upd_ne hb]; exact h
  have nfree : ∀ b, Free c B H b → Free c B (upd H a o) b := fun b f1 => ⟨f1.h0, f1.nl, f1.hs, th b f1.th⟩
  refine ⟨⟨r.ext.le, r.ext.n0, r.ext.nl, fun b u h hk => ?_, fun b h => th b (r.ext.tr b h)⟩, ⟨fun b u h => keep b u (ne_of_none h fa.h0) (r.lv.sub b u h), r.lv.inj, r.lv.dom, fun k f' h => ?_⟩, r.len, ?_, fun p hp => ?_, List.nodup_cons.mpr nd⟩
  · exact keep b u (fun e => by rw [e, fa.hs] at h; cases h) (r.ext.fr b u h hk)
  · obtain ⟨b, h1, h2, h3⟩ := r.lv.ob k f' h
    have hb : b ≠ a := fun e => fa.nl k (by rw [← e]; exact h1)
    exact ⟨b, h1, h2, h3.mono (.refl B) fun u hu => keep b u hb hu⟩
  · obtain ⟨ad, τ, h1, h2, h3⟩ := r.sl
    refine ⟨ad, τ, h1, fun i b h => ⟨nfree b (h2 i b h).1, fun p hp => ?_⟩, fun i sv h => ?_⟩
    · rcases List.mem_cons.mp hp with rfl | hp
      · exact (h2 i b h).2 (a, f) List.mem_cons_self
      · exact (h2 i b h).2 p (List.mem_cons_of_mem _ hp)
    · obtain ⟨v, e, k⟩ := h3 i sv h
      refine ⟨v, e, ?_⟩
      cases sv with
      | d x => exact k
      | m f' =>
        obtain ⟨b, e1, e2, e3⟩ := k
        have hb : b ≠ a := fun e => (h2 i b e1).2 _ List.mem_cons_self e.symm
        exact ⟨b, e1, e2, e3.mono (.refl B) fun u hu => keep b u hb hu⟩
  · rcases List.mem_cons.mp hp with rfl | hp
    · exact ⟨nfree _ fa, hf⟩
    · obtain ⟨g1, g2⟩ := r.fr p (List.mem_cons_of_mem _ hp)
      have hb : p.1 ≠ a := fun e => nd.1 (by rw [← e]; exact List.mem_map_of_mem hp)
      exact ⟨nfree _ g1, g2.mono (.refl B) fun u hu => keep p.1 u hb hu⟩
/-- a fresh thing that a slot's name bears is the slot's own -/
theorem Rel.putback {c : Cn} {B : Bs} {σ : Sg} {H : Hp} {st : MS} {i : Nat} {a : Addr} {f : Fr} {fs : Fs} (r : Rel c B σ H st ((a, f) :: fs)) (hv : σ[i]? = some (some (.ref a))) : Rel c B σ H { st with sl := st.sl.set i (some (.m f)) } fs := by
  have hi := (List.getElem?_eq_some_iff.mp hv).1
  have q := r.storeF (i := i) hi
  have e : σ.set i (some (.ref a)) = σ := by
    obtain ⟨h1, h2⟩ := List.getElem?_eq_some_iff.mp hv
    rw [← h2]
    exact List.set_getElem_self h1
  rw [e] at q
  exact q
/-! ### what is walked -/
def WalkD (c : Cn) (B : Bs) (items : List D) (J : It) : Prop := ∀ (i : Nat) (B2 : Bs) (σ2 : Sg) (H2 : Hp) (s2 : MS) (fs2 : Fs), B.le B2 → Rel c B2 σ2 H2 s2 fs2 →
  (∀ d, items[i]? = some d → J.go i H2 ∧ ∀ x H3, J.yld i H2 x H3 → ∃ B3, B2.le B3 ∧ Rel c B3 σ2 H3 s2 fs2 ∧ IsD c.n B3 d x) ∧ (items.length ≤ i → J.stop i H2)
def rI (c : Cn) (W : WX) (m : Mo (List D)) : TI := fun σ H R => ∃ B st fs, Rel c B σ H st fs ∧ Post c W σ B (m st) fun items s => ∀ B' H' J, B.le B' → Rel c B' σ H' s fs → WalkD c B' items J → R J H'
structure IE (X : Cx) (c : Cn) (W : WX) (tg iter : Expr) (m : Mo (List D)) : Prop where
  pi : PI X tg iter (rI c W m)
theorem piImp {X : Cx} {tg iter : Expr} {t t' : TI} (h : PI X tg iter t) (f : ∀ σ H R, t' σ H R → t σ H R) : PI X tg iter t' := ⟨fun pins s σ H R I q => h.run pins s σ H R I (f σ H R q)⟩
section
variable {X : Cx} {c : Cn} {W : WX} {tg e a b : Expr} {es : List Expr} {pos : Pos}
theorem walk_list [g : Gd X c] {B : Bs} {a : Addr} {vs : List V} {ds : List D} (h : Rd B.H0 a (.lst vs)) (i : IsDs c.n B ds vs) : WalkD c B ds (Itl X.K a) := fun j B2 σ2 H2 s2 fs2 l r => by
  have h2 : SqL X.K H2 a vs := .inl (rd_mono (fun x o q => r.lv.sub x o (l.h0 x o q)) h)
  refine ⟨fun d hd => ?_, fun hj => ⟨vs, h2, by rw [i.length]; exact hj⟩⟩
  obtain ⟨v, hv, iv⟩ := i.get hd
  exact ⟨⟨vs, v, h2, hv⟩, fun x H3 ⟨e, y⟩ => ⟨B2, .refl _, by rw [e]; exact r, by
    have := y vs h2
    rw [hv] at this
    rw [← Option.some.inj this]
    exact IsD.mono l d v iv⟩⟩
theorem walk_tup [g : Gd X c] {B : Bs} {a : Addr} {vs : List V} {ds : List D} (h : SqT X.K B.H0 a vs) (i : IsDs c.n B ds vs) : WalkD c B ds (Itt X.K a) := fun j B2 σ2 H2 s2 fs2 l r => by
  have h2 : SqT X.K H2 a vs := sqT_mono (fun x o q => r.lv.sub x o (l.h0 x o q)) h
  refine ⟨fun d hd => ?_, fun hj => ⟨vs, h2, by rw [i.length]; exact hj⟩⟩
  obtain ⟨v, hv, iv⟩ := i.get hd
  exact ⟨⟨vs, v, h2, hv⟩, fun x H3 ⟨e, y⟩ => ⟨B2, .refl _, by rw [e]; exact r, by
    have := y vs h2
    rw [hv] at this
    rw [← Option.some.inj this]
    exact IsD.mono l d v iv⟩⟩
def rgD (lo : Int) (n : Nat) : List D := (List.range n).map fun (k : Nat) => .int (lo + (k : Int))
theorem rgD_get {lo : Int} {n i : Nat} {d : D} (h : (rgD lo n)[i]? = some d) : i < n ∧ d = .int (lo + (i : Int)) := by
  unfold rgD at h
  rw [List.getElem?_map] at h
  by_cases hi : i < n
  · rw [List.getElem?_range hi] at h
    exact ⟨hi, (Option.some.inj h).symm⟩
  · rw [List.getElem?_eq_none (by simpa using hi)] at h
    cases h
theorem walk_range {B : Bs} {lo : Int} {n : Nat} : WalkD c B (rgD lo n) (Itr lo n) := fun j B2 σ2 H2 s2 fs2 l r => by
  refine ⟨fun d hd => ?_, fun hj => by
    have h : n ≤ j := by simpa [rgD] using hj
    exact h⟩
  obtain ⟨h1, rfl⟩ := rgD_get hd
  exact ⟨h1, fun x H3 ⟨e, y⟩ => ⟨B2, .refl _, by rw [e]; exact r, y⟩⟩
/-- a list, a tuple -/
@[simp ↓] def itemsOf : D → MS → Rs (List D)
  | .lst ds, s => .ok ds s
  | .tup ds, s => .ok ds s
  | _, _ => .bad
@[simp ↓] def mIt (m : Mo D) (st : MS) : Rs (List D) := (m st).then itemsOf
theorem pi_both {tl : TE} (hl : PE X e tl) : PI X tg e (fun σ H R => tl σ H fun x H1 => (∃ a, x = .ref a ∧ (∃ xs, SqL X.K H1 a xs) ∧ R (Itl X.K a) H1) ∨ (∃ a, x = .ref a ∧ (∃ xs, SqT X.K H1 a xs) ∧ R (Itt X.K a) H1)) := by
  refine ⟨fun pins s σ H R I h => ?_⟩
  refine thn (hl.run pins s σ H _ I h) fun v s1 ⟨x, H1, I1, r1, q1⟩ => ?_
  rcases q1 with q1 | q1
  · obtain ⟨a, e, ⟨xs, hq⟩, q⟩ := q1
    subst e
    cases r1
    obtain ⟨its, rv, p, hz⟩ := I1.list hq
    refine wpAny_pyIter_list p.isList ?_
    refine ⟨s1.heap.objs.size, [s1.heap.objs.size], _, _, H1, rfl, I1.kept (t' := s1.toks) fun b o e => Heap.get?_push_of_some _ e, turn_list a _, ⟨_, Heap.get?_push_size _ rfl, rfl, rfl⟩, fun b hb => ?_, q⟩
    have e : b = s1.heap.objs.size := by simpa using hb
    subst e
    exact I1.fpOk (Nat.le_refl _) (I1.hok.fresh (Nat.le_refl _))
  · obtain ⟨a, e, ⟨xs, hq⟩, q⟩ := q1
    subst e
    cases r1
    obtain ⟨its, rv, p, hz⟩ := I1.tuple hq
    refine wpAny_pyIter_tuple (show s1.heap.IsTuple a its.toArray from p) ?_
    refine ⟨s1.heap.objs.size, [s1.heap.objs.size], _, _, H1, rfl, I1.kept (t' := s1.toks) fun b o e => Heap.get?_push_of_some _ e, turn_tuple a _, ⟨_, Heap.get?_push_size _ rfl, rfl, rfl⟩, fun b hb => ?_, q⟩
    have e : b = s1.heap.objs.size := by simpa using hb
    subst e
    exact I1.fpOk (Nat.le_refl _) (I1.hok.fresh (Nat.le_refl _))
theorem ie_seq [g : Gd X c] {m : Mo D} (h : DE X c W e m) : IE X c W tg e (mIt m) :=
  ⟨piImp (pi_both h.pe) fun σ H R ⟨B, st, fs, r, p⟩ => ⟨B, st, fs, r, (Post.bind p).up (.refl B) fun d s k B1 H1 v l1 r1 i1 => by
    have hK : c.n.K = X.K := by rw [g.n]
    cases d with
    | lst ds =>
      obtain ⟨a, vs, rfl, h2, h3⟩ := i1
      exact .inl ⟨a, rfl, ⟨vs, .inl (rd_mono r1.lv.sub h2)⟩, k B1 H1 _ l1 r1 (walk_list h2 h3)⟩
    | tup ds =>
      obtain ⟨a, vs, rfl, h2, h3⟩ := i1
      rw [hK] at h2
      exact .inr ⟨a, rfl, ⟨vs, sqT_mono r1.lv.sub h2⟩, k B1 H1 _ l1 r1 (walk_tup h2 h3)⟩
    | _ => exact k.elim⟩⟩
/-- range -/
def inR (j : Int) : Bool := decide (j.natAbs < 2 ^ 62)
@[simp ↓] def rg1 : List D → MS → Rs (List D)
  | [.int j], s => if inR j = true then .ok (rgD 0 j.toNat) s else .bad
  | _, _ => .bad
@[simp ↓] def rg2 : List D → MS → Rs (List D)
  | [.int i, .int j], s => if (inR i && inR j) = true then .ok (rgD i (j - i).toNat) s else .bad
  | _, _ => .bad
@[simp ↓] def mRg1 (ms : Mo (List D)) (st : MS) : Rs (List D) := (ms st).then rg1
@[simp ↓] def mRg2 (ms : Mo (List D)) (st : MS) : Rs (List D) := (ms st).then rg2
theorem inR_ok {j : Int} (h : inR j = true) : -(2 ^ 62) ≤ j ∧ j < 2 ^ 62 := by
  unfold inR at h
  have := of_decide_eq_true h
  omega
theorem ie_range1 {ms : Mo (List D)} {p : Pos} (hg : Gl X "range") (hm : X.mg "range" = none) (ha : AE X c W [a] ms) (hs : starEach [a] X.env = [(false, eval a X.env)] := by rfl) : IE X c W tg (.Call (.Name "range" p) [a] [] pos) (mRg1 ms) :=
  ⟨piImp (pi_range1 hg hm ha.pa hs) fun σ H R ⟨B, st, fs, r, p⟩ => ⟨B, st, fs, r, (Post.bind p).up (.refl B) fun ds s k B1 H1 vs l1 r1 i1 => by
    unfold rg1 at k
    split at k
    · split at k
      · rename_i j q
        obtain ⟨v, w, rfl, h1, h2⟩ := i1
        cases (show w = [] from h2)
        exact ⟨j, by rw [(show v = .int j from h1)], (inR_ok q).1, (inR_ok q).2, k B1 H1 _ l1 r1 walk_range⟩
      · exact k.elim
    · exact k.elim⟩⟩
theorem ie_range2 {ms : Mo (List D)} {p : Pos} (hg : Gl X "range") (hm : X.mg "range" = none) (ha : AE X c W [a, b] ms) (hs : starEach [a, b] X.env = [(false, eval a X.env), (false, eval b X.env)] := by rfl) (hs2 : starEach [b] X.env = [(false, eval b X.env)] := by rfl) : IE X c W tg (.Call (.Name "range" p) [a, b] [] pos) (mRg2 ms) :=
  ⟨piImp (pi_range2 hg hm ha.pa hs hs2) fun σ H R ⟨B, st, fs, r, p⟩ => ⟨B, st, fs, r, (Post.bind p).up (.refl B) fun ds s k B1 H1 vs l1 r1 i1 => by
    unfold rg2 at k
    split at k
    · split at k
      · rename_i i j q
        rw [Bool.and_eq_true] at q
        obtain ⟨v, w, rfl, h1, v2, w2, rfl, h3, h4⟩ := i1
        cases (show w2 = [] from h4)
        exact ⟨i, j, by rw [(show v = .int i from h1), (show v2 = .int j from h3)], ⟨(inR_ok q.1).1, (inR_ok q.1).2, (inR_ok q.2).1, (inR_ok q.2).2⟩, k B1 H1 _ l1 r1 walk_range⟩
      · exact k.elim
    · exact k.elim⟩⟩
end
/-! ### targets -/
abbrev Gt := D → MS → Option MS
def rG (c : Cn) (vs : List Nat) (g : Gt) : TG := fun v σ H Q => ∃ B st x fs, Rel c B σ H st fs ∧ IsD c.n B x v ∧ (match g x st with
  | some st' => ∀ B' σ', B.le B' → Rel c B' σ' H st' fs → L2.wipe σ' vs = L2.wipe σ vs → Q σ' H
  | none => False)
def rGs (c : Cn) (vs : List Nat) (g : List D → MS → Option MS) : TGs := fun vals σ H Q => ∃ B st xs fs, Rel c B σ H st fs ∧ IsDs c.n B xs vals ∧ (match g xs st with
  | some st' => ∀ B' σ', B.le B' → Rel c B' σ' H st' fs → L2.wipe σ' vs = L2.wipe σ vs → Q σ' H
  | none => False)
structure TGE (X : Cx) (c : Cn) (vs : List Nat) (tg : Expr) (g : Gt) : Prop where
  pg : PG X tg (rG c vs g)
structure TGEs (X : Cx) (c : Cn) (vs : List Nat) (tgs : List Expr) (g : List D → MS → Option MS) : Prop where
  pgs : PGs X tgs (rGs c vs g)
theorem pgImp {X : Cx} {tg : Expr} {t t' : TG} (h : PG X tg t) (f : ∀ v σ H Q, t' v σ H Q → t v σ H Q) : PG X tg t' := ⟨fun pins s σ H v u Q I r q => h.run pins s σ H v u Q I r (f v σ H Q q)⟩
theorem pgsImp {X : Cx} {tg : List Expr} {t t' : TGs} (h : PGs X tg t) (f : ∀ v σ H Q, t' v σ H Q → t v σ H Q) : PGs X tg t' := ⟨fun pins s σ H v u Q I r q => h.run pins s σ H v u Q I r (f v σ H Q q)⟩
theorem wipe_set {σ : Sg} {i : Nat} {v : V} : ∀ {vs : List Nat}, i ∈ vs → L2.wipe (σ.set i (some v)) vs = L2.wipe σ vs
  | [], h => by simp at h
  | j :: r, h => by
    show (L2.wipe (σ.set i (some v)) r).set j none = (L2.wipe σ r).set j none
    by_cases hr : i ∈ r
    · rw [wipe_set hr]
    · have e : j = i := by
        rcases List.mem_cons.mp h with z | z
        · exact z.symm
        · exact absurd z hr
      subst e
      have hc : ∀ {vs : List Nat}, j ∉ vs → L2.wipe (σ.set j (some v)) vs = (L2.wipe σ vs).set j (some v) := by
        intro vs
        induction vs with
        | nil => intro _; rfl
        | cons k t ih =>
          intro hk
          show (L2.wipe (σ.set j (some v)) t).set k none = ((L2.wipe σ t).set k none).set j (some v)
          rw [ih (fun z => hk (List.mem_cons_of_mem _ z)), List.set_comm _ _ (fun e => hk (by rw [e]; exact List.mem_cons_self))]
      rw [hc hr, List.set_set]
section
variable {X : Cx} {c : Cn} {W : WX} {tg e : Expr} {es : List Expr} {pos : Pos} {vs : List Nat}
@[simp] def gN (i : Nat) (x : D) (st : MS) : Option MS := some { st with sl := st.sl.set i (some (.d x)) }
theorem tg_name [g : Gd X c] (i : Nat) {x : Str} (hi : X.N[i]? = some x) (hx : Loc X.env.scope x) (hv : i ∈ vs) (hf : X.fn x = true ∨ X.env.scope.names.lookup x = some .local := by first | exact .inl rfl | exact .inr rfl | assumption) : TGE X c vs (.Name x pos) (gN i) :=
  ⟨pgImp (pg_name g.nd hi hx hf) fun v σ H Q ⟨B, st, x, fs, r, ix, k⟩ => k B _ (.refl B) (r.store (by rw [r.len, g.nn]; exact (List.getElem?_eq_some_iff.mp hi).1) ix) (wipe_set hv)⟩
@[simp] def gsN : List D → MS → Option MS
  | [], st => some st
  | _, _ => none
@[simp] def gsC (g : Gt) (gs : List D → MS → Option MS) : List D → MS → Option MS
  | x :: xs, st => (g x st).bind (gs xs)
  | _, _ => none
theorem tgs_nil : TGEs X c vs [] gsN := ⟨pgsImp pgs_nil fun v σ H Q ⟨B, st, xs, fs, r, ix, k⟩ => by
  cases xs with
  | nil => exact ⟨ix, k B σ (.refl B) r rfl⟩
  | cons x xs => exact k.elim⟩
theorem tgs_cons {g : Gt} {gs : List D → MS → Option MS} (h : TGE X c vs e g) (hs : TGEs X c vs es gs) (hs : (assignEach (e :: es) X.env).map (·.2) = assign e X.env :: (assignEach es X.env).map (·.2) := by rfl) : TGEs X c vs (e :: es) (gsC g gs) :=
  ⟨pgsImp (pgs_cons h.pg (by assumption : TGEs X c vs es gs).pgs hs) fun v σ H Q ⟨B, st, xs, fs, r, ix, k⟩ => by
    cases xs with
    | nil => exact k.elim
    | cons x xs =>
      obtain ⟨w, rr, rfl, i1, i2⟩ := ix
      refine ⟨w, rr, rfl, B, st, x, fs, r, i1, ?_⟩
      simp only [gsC] at k
      cases q : g x st with
      | none => rw [q] at k; exact k.elim
      | some st1 =>
        rw [q] at k
        simp only [Option.bind_some] at k
        intro B1 σ1 l1 r1 w1
        refine ⟨B1, st1, xs, fs, r1, i2.mono l1 _ _, ?_⟩
        cases q2 : gs xs st1 with
        | none => rw [q2] at k; exact k.elim
        | some st2 =>
          rw [q2] at k
          exact fun B2 σ2 l2 r2 w2 => k B2 σ2 (l1.trans l2) r2 (w2.trans w1)⟩
@[simp] def gT (n : Nat) (gs : List D → MS → Option MS) : Gt
  | .tup xs, st => if xs.length = n then gs xs st else none
  | _, _ => none
theorem tg_tup [gd : Gd X c] {k n : Nat} {gs : List D → MS → Option MS} (h : TGEs X c vs es gs) (hn : (assignEach es X.env).length = n := by rfl) (hst : (assignEach es X.env).findIdx? (·.1) = none := by rfl) : TGE X c vs (.Tuple es k pos) (gT n gs) :=
  ⟨pgImp (pg_tup gd.calm h.pgs hn hst) fun v σ H Q ⟨B, st, x, fs, r, ix, k⟩ => by
    cases x with
    | tup xs =>
      obtain ⟨a, ws, rfl, h2, h3⟩ := ix
      have hK : c.n.K = X.K := by rw [gd.n]
      rw [hK] at h2
      simp only [gT] at k
      split at k
      · rename_i q
        exact (fun (p : ∃ st', gs xs st = some st') => by
          obtain ⟨st', e⟩ := p
          split at q
          · rename_i hl
            refine ⟨a, ws, rfl, sqT_mono r.lv.sub h2, by rw [h3.length]; exact hl, B, st, xs, fs, r, h3, ?_⟩
            rw [q]
            exact k
          · cases q) (by split at q; exact ⟨_, q⟩; cases q)
      · exact k.elim
    | _ => exact k.elim⟩
end
/-! ### loops -/
def mForL (g : Gt) (body : MoS) (wp : List Nat) : List D → MoS
  | [], st => .nx st
  | x :: xs, st => match g x st with
    | none => .bad
    | some s1 => match body s1 with
      | .nx s2 => mForL g body wp xs { s2 with sl := wipeS s2.sl wp }
      | .ct s2 => mForL g body wp xs { s2 with sl := wipeS s2.sl wp }
      | .bk s2 => .nx { s2 with sl := wipeS s2.sl wp }
      | .rt r g => .rt r g
      | .ex x as st => .ex x as st
      | .bad => .bad
@[simp ↓] def mFor (mi : Mo (List D)) (g : Gt) (body : MoS) (wp : List Nat) (st : MS) : RSt := (mi st).st fun items s => mForL g body wp items s
class PO (X : Cx) : Prop where
  po : PassesOwn (model X.prog X.w) X.A X.env X.xe
section
variable {X : Cx} {c : Cn} {W : WX} {tg it e : Expr} {es : List Expr} {pos : Pos} {vs : List Nat}
theorem se_for [gd : Gd X c] [po : PO X] {body : List Stmt} {mi : Mo (List D)} {g : Gt} {m : MoS} (wp : List Nat) (hi : IE X c W tg it mi) (hg : TGE X c vs tg g) (hb : SSE X c W body m) (hs : ∀ x, foldedSetIterable it X.env x = pure x := by intro _; rfl) :
    SE X c W (.For tg it body [] pos) (mFor mi g m wp) :=
  ⟨psImp (ps_for po.po gd.calm hi.pi hg.pg hb.ps hs) fun D σ H ⟨B, st, r, p⟩ => ⟨B, st, [], r, (PostS.bind p).up (.refl B) fun items s k B1 H1 J l1 r1 wk => by
    refine ⟨fun i m' σ H => m' = items.length - i ∧ i ≤ items.length ∧ ∃ B2 s2, B1.le B2 ∧ Rel c B2 σ H s2 [] ∧ PostS c W B2 (mForL g m wp (items.drop i) s2) D, ⟨items.length, by simp, Nat.zero_le _, B1, s, .refl _, r1, by rw [List.drop_zero]; exact PostS.up k l1⟩, ?_⟩
    rintro i m' σ2 H2 ⟨rfl, hi, B2, s2, l2, r2, p2⟩
    obtain ⟨w1, w2⟩ := wk i B2 σ2 H2 s2 [] l2 r2
    by_cases hlt : i < items.length
    · obtain ⟨go, yl⟩ := w1 items[i] (List.getElem?_eq_getElem hlt)
      have ed : items.drop i = items[i] :: items.drop (i + 1) := List.drop_eq_getElem_cons hlt
      rw [ed] at p2
      unfold mForL at p2
      refine .inr ⟨go, fun σ H => ∃ B2 s2, B1.le B2 ∧ Rel c B2 σ H s2 [] ∧ PostS c W B2 (mForL g m wp (items.drop (i + 1)) s2) D, fun σ' H' ⟨B3, s3, l3, r3, p3⟩ => ⟨items.length - (i + 1), by omega, rfl, hlt, B3, s3, l3, r3, p3⟩, fun x H3 hy => ?_⟩
      obtain ⟨B3, l3, r3, i3⟩ := yl x H3 hy
      refine ⟨B3, s2, items[i], [], r3, i3, ?_⟩
      cases q : g items[i] s2 with
      | none => rw [q] at p2; exact p2
      | some s4 =>
        rw [q] at p2
        intro B4 σ4 l4 r4 _
        refine ⟨B4, s4, r4, ?_⟩
        simp only at p2
        cases q2 : m s4 with
        | nx s5 =>
          rw [q2] at p2
          exact fun B5 σ5 H5 l5 r5 => ⟨B5, _, ((l2.trans l3).trans l4).trans l5, r5.wiped wp, PostS.up p2 ((l3.trans l4).trans l5)⟩
        | ct s5 =>
          rw [q2] at p2
          exact fun B5 σ5 H5 l5 r5 => ⟨B5, _, ((l2.trans l3).trans l4).trans l5, r5.wiped wp, PostS.up p2 ((l3.trans l4).trans l5)⟩
        | bk s5 =>
          rw [q2] at p2
          exact fun B5 σ5 H5 l5 r5 => p2 B5 σ5 H5 ((l3.trans l4).trans l5) (r5.wiped wp)
        | rt r g => rw [q2] at p2; exact p2
        | ex x as s5 => rw [q2] at p2; exact fun B5 σ5 H5 C d l5 => p2 B5 σ5 H5 C d ((l3.trans l4).trans l5)
        | bad => rw [q2] at p2; exact p2
    · have e : i = items.length := by omega
      rw [e, List.drop_length] at p2
      exact .inl ⟨w2 (by omega), p2 B2 σ2 H2 (.refl _) r2⟩⟩⟩
def mWhileN (mt : Mo Bool) (m : MoS) (wp : List Nat) : Nat → MoS
  | 0, _ => .bad
  | n + 1, st => (mt st).st fun b s => if b then (match m s with
      | .nx s2 => mWhileN mt m wp n { s2 with sl := wipeS s2.sl wp }
      | .ct s2 => mWhileN mt m wp n { s2 with sl := wipeS s2.sl wp }
      | .bk s2 => .nx { s2 with sl := wipeS s2.sl wp }
      | .rt r g => .rt r g
      | .ex x as st => .ex x as st
      | .bad => .bad) else .nx s
def fuel : Nat := 2 ^ 200
def mWhile (mt : Mo Bool) (m : MoS) (wp : List Nat) : MoS := mWhileN mt m wp fuel
theorem se_while [po : PO X] {t : Expr} {body : List Stmt} {mt : Mo Bool} {m : MoS} (wp : List Nat) (ht : TEs X c W t mt) (hb : SSE X c W body m) : SE X c W (.While t body [] pos) (mWhile mt m wp) :=
  ⟨psImp (ps_while po.po ht.pt hb.ps) fun D σ H ⟨B, st, r, p⟩ => by
    refine ⟨fun n σ H => ∃ B2 s2, Rel c B2 σ H s2 [] ∧ PostS c W B2 (mWhileN mt m wp n s2) D, ⟨fuel, B, st, r, p⟩, ?_⟩
    rintro n σ2 H2 ⟨B2, s2, r2, p2⟩
    cases n with
    | zero => exact p2.elim
    | succ n =>
      unfold mWhileN at p2
      refine ⟨B2, s2, [], r2, (PostS.bind p2).up (.refl _) fun b s3 k B3 H3 l3 r3 => ?_⟩
      cases b with
      | false =>
        rw [if_neg Bool.false_ne_true]
        exact k B3 σ2 H3 l3 r3
      | true =>
        rw [if_pos rfl]
        refine ⟨fun σ H => ∃ B2 s2, Rel c B2 σ H s2 [] ∧ PostS c W B2 (mWhileN mt m wp n s2) D, fun σ' H' h => ⟨n, Nat.lt_succ_self n, h⟩, B3, s3, r3, ?_⟩
        simp only [if_true] at k
        cases q2 : m s3 with
        | nx s5 =>
          rw [q2] at k
          exact fun B5 σ5 H5 l5 r5 => ⟨B5, _, r5.wiped wp, PostS.up k (l3.trans l5)⟩
        | ct s5 =>
          rw [q2] at k
          exact fun B5 σ5 H5 l5 r5 => ⟨B5, _, r5.wiped wp, PostS.up k (l3.trans l5)⟩
        | bk s5 =>
          rw [q2] at k
          exact fun B5 σ5 H5 l5 r5 => k B5 σ5 H5 (l3.trans l5) (r5.wiped wp)
        | rt r g => rw [q2] at k; exact k
        | ex x as s5 => rw [q2] at k; exact fun B5 σ5 H5 C d l5 => k B5 σ5 H5 C d (l3.trans l5)
        | bad => rw [q2] at k; exact k⟩
/-! ### list comprehensions -/
abbrev noW : WX := fun _ _ _ _ => False
/-- the items' own slots as they were, where they are data -/
@[simp] def backS (o s : List (Option SV)) : List Nat → List (Option SV)
  | [] => s
  | i :: r => (backS o s r).set i (match o[i]? with
    | some (some (.d x)) => some (.d x)
    | _ => none)
def lcL (g : Gt) (mt : Mo Bool) (me : Mo D) (own : List Nat) : List D → List D → MS → Rs (List D)
  | [], acc, st => .ok acc st
  | x :: xs, acc, st => match g x st with
    | none => .bad
    | some s1 => match mt s1 with
      | .ok true s2 => (match me s2 with
        | .ok d s3 => if decide (acc.length < lim) = true then lcL g mt me own xs (acc ++ [d]) { s3 with sl := wipeS s3.sl own } else .bad
        | _ => .bad)
      | .ok false s2 => lcL g mt me own xs acc { s2 with sl := wipeS s2.sl own }
      | _ => .bad
@[simp ↓] def mLc (mi : Mo (List D)) (g : Gt) (mt : Mo Bool) (me : Mo D) (own : List Nat) (st : MS) : Rs EX := (mi st).then fun items s => (lcL g mt me own items [] { s with sl := wipeS s.sl own }).then fun acc s' => .ok (.f (.l acc)) { s' with sl := backS s.sl s'.sl own }
@[simp ↓] def mYes (st : MS) : Rs Bool := .ok true st
structure TTs (X : Cx) (c : Cn) (W : WX) (ifs : List Expr) (m : Mo Bool) : Prop where
  pts : PTs X ifs (rT c W m)
theorem tt_nil : TTs X c W [] mYes := ⟨⟨fun pins s σ H Q I ⟨B, st, fs, r, p⟩ => (pts_nil (X := X)).run pins s σ H Q I (p B H (.refl B) r)⟩⟩
theorem tt_one {m : Mo Bool} (h : TEs X c W e m) : TTs X c W [e] m := ⟨pts_one h.pt⟩
theorem wipe_ne {σ : Sg} {i : Nat} : ∀ {vs : List Nat}, i ∉ vs → (L2.wipe σ vs)[i]? = σ[i]?
  | [], _ => rfl
  | v :: r, h => by
    show ((L2.wipe σ r).set v none)[i]? = σ[i]?
    rw [List.getElem?_set_ne (fun e => h (by rw [e]; exact List.mem_cons_self)), wipe_ne fun z => h (List.mem_cons_of_mem _ z)]
theorem wipeS_none {sl : List (Option SV)} {i : Nat} : ∀ {vs : List Nat}, i ∈ vs → ∀ sv, (wipeS sl vs)[i]? ≠ some (some sv)
  | vs, h, sv, q => (wipeS_some q).2 h
/-- the own slots are forgotten on both sides -/
theorem Rel.blk {B : Bs} {σ : Sg} {H : Hp} {st : MS} {fs : Fs} (own : List Nat) (r : Rel c B σ H st fs) : Rel c B (L2.wipe σ own) H { st with sl := wipeS st.sl own } fs := by
  obtain ⟨ad, τ, h1, h2, h3⟩ := r.sl
  refine ⟨r.ext, r.lv, by rw [L2.wipe_length]; exact r.len, ⟨ad, τ, h1, h2, fun i sv h => ?_⟩, r.fr, r.fnd⟩
  obtain ⟨g1, g2⟩ := wipeS_some h
  obtain ⟨v, e, k⟩ := h3 i sv g1
  refine ⟨v, ?_, k⟩
  by_cases hi : i < σ.length
  · rw [List.getElem?_append_left hi] at e
    rw [List.getElem?_append_left (by rw [L2.wipe_length]; exact hi), wipe_ne g2]
    exact e
  · rw [List.getElem?_append_right (by omega)] at e
    rw [List.getElem?_append_right (by rw [L2.wipe_length]; omega), L2.wipe_length]
    exact e
theorem Rel.unblk {B : Bs} {σ σ' : Sg} {H : Hp} {st : MS} {fs : Fs} {own : List Nat} (r : Rel c B σ' H st fs) (e : L2.wipe σ' own = L2.wipe σ own) : Rel c B σ H { st with sl := wipeS st.sl own } fs := by
  obtain ⟨ad, τ, h1, h2, h3⟩ := r.sl
  have el : σ'.length = σ.length := by
    have := congrArg List.length e
    rw [L2.wipe_length, L2.wipe_length] at this
    exact this
  refine ⟨r.ext, r.lv, by rw [← el]; exact r.len, ⟨ad, τ, h1, h2, fun i sv h => ?_⟩, r.fr, r.fnd⟩
  obtain ⟨g1, g2⟩ := wipeS_some h
  obtain ⟨v, q, k⟩ := h3 i sv g1
  refine ⟨v, ?_, k⟩
  by_cases hi : i < σ.length
  · rw [List.getElem?_append_left (by rw [el]; exact hi), ← wipe_ne g2, e, wipe_ne g2] at q
    rw [List.getElem?_append_left hi]
    exact q
  · rw [List.getElem?_append_right (by omega), el] at q
    rw [List.getElem?_append_right (by omega)]
    exact q
theorem Rel.back {B B' : Bs} {σ : Sg} {H H' : Hp} {st st' : MS} {fs fs' : Fs} (l : B.le B') (r0 : Rel c B σ H st fs) : ∀ {own : List Nat}, (∀ i ∈ own, i < c.nn) → (∀ i ∈ own, ∀ sv, st'.sl[i]? ≠ some (some sv)) → Rel c B' σ H' st' fs' → Rel c B' σ H' { st' with sl := backS st.sl st'.sl own } fs' := by
  intro own hn hf r
  obtain ⟨ad, τ, h1, h2, h3⟩ := r.sl
  refine ⟨r.ext, r.lv, r.len, ⟨ad, τ, h1, h2, fun i sv h => ?_⟩, r.fr, r.fnd⟩
  have key : ∀ {own : List Nat}, (∀ i ∈ own, i < c.nn) → (backS st.sl st'.sl own)[i]? = some (some sv) → (i ∈ own ∧ ∃ x, sv = .d x ∧ st.sl[i]? = some (some (.d x))) ∨ st'.sl[i]? = some (some sv) := by
    intro own
    induction own with
    | nil => exact fun _ h => .inr h
    | cons j t ih =>
      intro hn h
      have h' : ((backS st.sl st'.sl t).set j (match st.sl[j]? with
        | some (some (.d x)) => some (.d x)
        | _ => none))[i]? = some (some sv) := h
      by_cases e : j = i
      · subst e
        have hl : j < ((backS st.sl st'.sl t).set j (match st.sl[j]? with
          | some (some (.d x)) => some (.d x)
          | _ => none)).length := (List.getElem?_eq_some_iff.mp h').1
        rw [List.length_set] at hl
        rw [List.getElem?_set_self hl] at h'
        left
        refine ⟨List.mem_cons_self, ?_⟩
        split at h'
        · rename_i x q
          have h2 : SV.d x = sv := by simpa using h'
          exact ⟨x, h2.symm, q⟩
        · simp at h'
      · rw [List.getElem?_set_ne e] at h'
        rcases ih (fun i hi => hn i (List.mem_cons_of_mem _ hi)) h' with ⟨a, b⟩ | q
        · exact .inl ⟨List.mem_cons_of_mem _ a, b⟩
        · exact .inr q
  rcases key hn h with ⟨hi, x, rfl, q⟩ | q
  · have hil : i < σ.length := by rw [r.len]; exact hn i hi
    obtain ⟨ad0, τ0, g1, g2, g3⟩ := r0.sl
    obtain ⟨v, e, k⟩ := g3 i _ q
    rw [List.getElem?_append_left hil] at e
    exact ⟨v, by rw [List.getElem?_append_left hil]; exact e, IsD.mono l x v k⟩
  · exact h3 i sv q
theorem wipe_at {σ : Sg} {v : Nat} : ∀ {ws : List Nat}, v ∈ ws → v < (L2.wipe σ ws).length → (L2.wipe σ ws)[v]? = some none
  | [], h, _ => by simp at h
  | u :: t, h, hl => by
    show ((L2.wipe σ t).set u none)[v]? = some none
    have hl' : v < (L2.wipe σ t).length := by
      have hl2 : v < ((L2.wipe σ t).set u none).length := hl
      rwa [List.length_set] at hl2
    by_cases e : u = v
    · rw [e, List.getElem?_set_self hl']
    · rw [List.getElem?_set_ne e]
      exact wipe_at ((List.mem_cons.mp h).resolve_left fun z => e z.symm) hl'
theorem wipe_wipe {σ : Sg} : ∀ (vs ws : List Nat), (∀ v ∈ vs, v ∈ ws) → L2.wipe (L2.wipe σ ws) vs = L2.wipe σ ws
  | [], ws, _ => rfl
  | v :: t, ws, hvs => by
    show (L2.wipe (L2.wipe σ ws) t).set v none = L2.wipe σ ws
    rw [wipe_wipe t ws fun z hz => hvs z (List.mem_cons_of_mem _ hz)]
    refine List.ext_getElem? fun n => ?_
    by_cases e : v = n
    · subst e
      by_cases hl : v < (L2.wipe σ ws).length
      · rw [List.getElem?_set_self hl]
        exact (wipe_at (hvs v List.mem_cons_self) hl).symm
      · rw [List.getElem?_eq_none (by rw [List.length_set]; omega), List.getElem?_eq_none (by omega)]
    · rw [List.getElem?_set_ne e]
instance gdB {s : Shared} {H : Hp} {scope : Scope} {ce : Env} {fp : List Addr} [g : Gd X c] : Gd (X.blk s H scope ce fp) c := ⟨g.n, g.calm, g.nd, g.nn⟩
instance tkB {s : Shared} {H : Hp} {scope : Scope} {ce : Env} {fp : List Addr} : Tk (X.blk s H scope ce fp) noW := ⟨takes0⟩
theorem lc_go [gd : Gd X c] {mi : Mo (List D)} {g : Gt} {mt : Mo Bool} {me : Mo D} {own : List Nat} {σ : Sg} {H : Hp} {Q : VK} (ho : ∀ i ∈ own, i < X.N.length) (h : rX c W (mLc mi g mt me own) σ H Q) : tLc (rI c W mi) (rG c own g) (rT c noW mt) (rD c noW me) own σ H Q := by
  obtain ⟨B, st, fs, r, p⟩ := h
  refine ⟨B, st, fs, r, (Post.bind p).up (.refl B) fun items s k B1 H1 J l1 r1 wk D0 hD => ?_⟩
  have r2 : Rel c B1 σ (upd H1 D0 (.lst [])) s ((D0, .l []) :: fs) := r1.newF hD ⟨[], upd_same, rfl⟩
  have k' := Post.bind k
  refine ⟨fun i m H => m = items.length - i ∧ i ≤ items.length ∧ ∃ B2 s2 acc, B1.le B2 ∧ Rel c B2 (L2.wipe σ own) H s2 ((D0, .l acc) :: fs) ∧ (∀ i ∈ own, ∀ sv, s2.sl[i]? ≠ some (some sv)) ∧
    Post c W σ B (lcL g mt me own (items.drop i) acc s2) fun acc s' => KX c σ B fs Q (.f (.l acc)) { s' with sl := backS s.sl s'.sl own },
    ⟨items.length, by simp, Nat.zero_le _, B1, _, [], .refl _, r2.blk own, fun i hi sv => wipeS_none hi sv, by rw [List.drop_zero]; exact k'⟩, ?_⟩
  rintro i m H2 ⟨rfl, hi, B2, s2, acc, l2, r3, hw, p2⟩
  obtain ⟨w1, w2⟩ := wk i B2 _ H2 s2 _ l2 r3
  by_cases hlt : i < items.length
  · obtain ⟨go, yl⟩ := w1 items[i] (List.getElem?_eq_getElem hlt)
    have ed : items.drop i = items[i] :: items.drop (i + 1) := List.drop_eq_getElem_cons hlt
    rw [ed] at p2
    unfold lcL at p2
    refine .inr ⟨go, fun H => ∃ B2 s2 acc, B1.le B2 ∧ Rel c B2 (L2.wipe σ own) H s2 ((D0, .l acc) :: fs) ∧ (∀ i ∈ own, ∀ sv, s2.sl[i]? ≠ some (some sv)) ∧
      Post c W σ B (lcL g mt me own (items.drop (i + 1)) acc s2) fun acc s' => KX c σ B fs Q (.f (.l acc)) { s' with sl := backS s.sl s'.sl own }, fun H' ⟨B3, s3, acc3, l3, r3, hw3, p3⟩ => ⟨items.length - (i + 1), by omega, rfl, hlt, B3, s3, acc3, l3, r3, hw3, p3⟩, fun x H3 hy => ?_⟩
    obtain ⟨B3, l3, r4, i4⟩ := yl x H3 hy
    refine ⟨B3, s2, items[i], _, r4, i4, ?_⟩
    cases q : g items[i] s2 with
    | none => rw [q] at p2; exact p2
    | some s4 =>
      rw [q] at p2
      simp only at p2
      intro B4 σ4 l4 r5 we
      have we' : L2.wipe σ4 own = L2.wipe σ own := we.trans (wipe_wipe own own fun _ h => h)
      refine ⟨we', B4, s4, _, r5, ?_⟩
      cases q2 : mt s4 with
      | bad => rw [q2] at p2; exact p2.elim
      | ex x as s5 => rw [q2] at p2; exact p2.elim
      | ok b s5 =>
        rw [q2] at p2
        intro B5 H5 l5 r6
        have fin : ∀ {B6 : Bs} {H6 : Hp} {s6 : MS} {acc' : List D}, B1.le B6 → Rel c B6 σ4 H6 s6 ((D0, .l acc') :: fs) → Rel c B6 (L2.wipe σ own) H6 { s6 with sl := wipeS s6.sl own } ((D0, .l acc') :: fs) := fun {B6 H6 s6 acc'} l6 r6 => by
          have := r6.blk own
          rw [we'] at this
          exact this
        cases b with
        | false =>
          rw [if_neg Bool.false_ne_true]
          exact ⟨B5, _, acc, ((l2.trans l3).trans l4).trans l5, fin (((l2.trans l3).trans l4).trans l5) r6, fun i hi sv => wipeS_none hi sv, p2⟩
        | true =>
          rw [if_pos rfl]
          refine ⟨B5, s5, _, r6, ?_⟩
          simp only at p2
          cases q3 : me s5 with
          | bad => rw [q3] at p2; exact p2.elim
          | ex x as s6 => rw [q3] at p2; exact p2.elim
          | ok d s6 =>
            rw [q3] at p2
            simp only at p2
            intro B6 H6 v l6 r7 iv
            split at p2
            · rename_i hlim
              obtain ⟨_, ws, hws, iws⟩ := r7.fr _ List.mem_cons_self
              have lall : B1.le B6 := (((l2.trans l3).trans l4).trans l5).trans l6
              refine ⟨ws, hws, ?_, B6, _, acc ++ [d], lall, fin lall (r7.writeF (f' := .l (acc ++ [d])) ⟨ws ++ [v], upd_same, iws.append ⟨v, [], rfl, iv, rfl⟩⟩), fun i hi sv => wipeS_none hi sv, p2⟩
              rw [iws.length]
              have := of_decide_eq_true hlim
              have e : sizeLine = 16777216 := sizeLine_eq
              rw [e]
              unfold lim at this
              omega
            · exact p2.elim
  · have e : i = items.length := by omega
    rw [e, List.drop_length] at p2
    refine .inl ⟨w2 (by omega), ?_⟩
    have r5 : Rel c B2 σ H2 { s2 with sl := wipeS s2.sl own } ((D0, .l acc) :: fs) := r3.unblk (wipe_wipe own own fun _ h => h)
    have es : wipeS s2.sl own = s2.sl := by
      have : ∀ (vs : List Nat), (∀ i ∈ vs, ∀ sv, s2.sl[i]? ≠ some (some sv)) → wipeS s2.sl vs = s2.sl := by
        intro vs
        induction vs with
        | nil => intro _; rfl
        | cons v t ih =>
          intro hv
          show (wipeS s2.sl t).set v none = s2.sl
          rw [ih fun i hi => hv i (List.mem_cons_of_mem _ hi)]
          refine List.ext_getElem? fun n => ?_
          by_cases e : v = n
          · subst e
            by_cases hl : v < s2.sl.length
            · rw [List.getElem?_set_self hl]
              cases q : s2.sl[v]? with
              | none => rw [List.getElem?_eq_none_iff] at q; omega
              | some o =>
                cases o with
                | none => rfl
                | some sv => exact absurd q (hv v List.mem_cons_self sv)
            · rw [List.getElem?_eq_none (by rw [List.length_set]; omega), List.getElem?_eq_none (by omega)]
          · rw [List.getElem?_set_ne e]
      exact this own hw
    rw [es] at r5
    exact p2 B2 H2 D0 (l1.trans l2) (Rel.back l2 r1 (fun i hi => by rw [gd.nn]; exact ho i hi) hw r5)
theorem ge_lc [gd : Gd X c] {elt : Expr} {ifs : List Expr} {scope : Scope} {own : List (Str × Nat)} {mi : Mo (List D)} {g : Gt} {mt : Mo Bool} {me : Mo D} (hi : IE X c W tg it mi) (ok : BlkOk X.N X.env.scope scope own)
    (hg : ∀ (s : Shared) (H : Hp) (C : Addr) (cl : List (Str × Addr)) (fp : List Addr), TGE (X.blk s H scope (compEnvC scope cl C X.env) fp) c (own.map (·.2)) tg g)
    (ht : ∀ (s : Shared) (H : Hp) (C : Addr) (cl : List (Str × Addr)) (fp : List Addr), TTs (X.blk s H scope (compEnvC scope cl C X.env) fp) c noW ifs mt)
    (he : ∀ (s : Shared) (H : Hp) (C : Addr) (cl : List (Str × Addr)) (fp : List Addr), DE (X.blk s H scope (compEnvC scope cl C X.env) fp) c noW elt me) (hs : ∀ x, foldedSetIterable it X.env x = pure x := by intro _; rfl) :
    GE X c W (.ListComp elt [⟨tg, it, ifs, 0⟩] scope pos) (mLc mi g mt me (own.map (·.2))) :=
  ⟨peImp (pe_lc gd.calm gd.nd hi.pi ok (fun s H C cl fp => (hg s H C cl fp).pg) (fun s H C cl fp => (ht s H C cl fp).pts) (fun s H C cl fp => (he s H C cl fp).pe) hs) fun σ H Q h => lc_go (fun i hi => by
    obtain ⟨p, hp, rfl⟩ := List.mem_map.mp hi
    exact (List.getElem?_eq_some_iff.mp (ok.ix p hp)).1) h⟩
/-- name = [..], the name a local -/
theorem se_setLc [gd : Gd X c] (i : Nat) {y : Str} {py spos : Pos} {elt : Expr} {ifs : List Expr} {scope : Scope} {own : List (Str × Nat)} {mi : Mo (List D)} {g : Gt} {mt : Mo Bool} {me : Mo D} (hy : X.N[i]? = some y) (hyl : X.env.scope.names.lookup y = some .local)
    (hsw : swapsWith (.ListComp elt [⟨tg, it, ifs, 0⟩] scope pos) (some (.Name y py)) spos.line X.env = pure true) (hi : IE X c W tg it mi) (ok : BlkOk X.N X.env.scope scope own)
    (hg : ∀ (s : Shared) (H : Hp) (C : Addr) (cl : List (Str × Addr)) (fp : List Addr), TGE (X.blk s H scope (compEnvC scope cl C X.env) fp) c (own.map (·.2)) tg g)
    (ht : ∀ (s : Shared) (H : Hp) (C : Addr) (cl : List (Str × Addr)) (fp : List Addr), TTs (X.blk s H scope (compEnvC scope cl C X.env) fp) c noW ifs mt)
    (he : ∀ (s : Shared) (H : Hp) (C : Addr) (cl : List (Str × Addr)) (fp : List Addr), DE (X.blk s H scope (compEnvC scope cl C X.env) fp) c noW elt me) (hs : ∀ x, foldedSetIterable it X.env x = pure x := by intro _; rfl) :
    SE X c W (.Assign [.Name y py] (.ListComp elt [⟨tg, it, ifs, 0⟩] scope pos) spos) (mSet i (mLc mi g mt me (own.map (·.2)))) :=
  ⟨psImp (ps_setLc gd.calm gd.nd hy hyl hsw hi.pi ok (fun s H C cl fp => (hg s H C cl fp).pg) (fun s H C cl fp => (ht s H C cl fp).pts) (fun s H C cl fp => (he s H C cl fp).pe) hs) fun D σ H h => lc_go (fun i hi => by
    obtain ⟨p, hp, rfl⟩ := List.mem_map.mp hi
    exact (List.getElem?_eq_some_iff.mp (ok.ix p hp)).1) (put_go (by rw [gd.nn]; exact (List.getElem?_eq_some_iff.mp hy).1) h)⟩
end
end Y
namespace Y
open PySem PySem.Spec PyProof.Rows L2
section
variable {X : Cx} {c : Cn} {W : WX} {tg it e a b : Expr} {es : List Expr} {pos : Pos} {vs : List Nat}
/-! ### subscripts -/
theorem atI_isDs {n : Kn} {B : Bs} {ds : List D} {vs : List V} {i : Int} {d : D} (h : IsDs n B ds vs) (e : atI ds i = some d) : ∃ v, atI vs i = some v ∧ IsD n B d v := by
  unfold atI at e ⊢
  rw [h.length]
  cases q : ixN ds.length i with
  | none => rw [q] at e; cases e
  | some j =>
    rw [q] at e
    exact h.get e
@[simp] def fIx : D → D → Option D
  | .lst ds, .int i => atI ds i
  | .tup ds, .int i => atI ds i
  | .str z, .int i => if decide (z.length ≤ lim) = true then (atI z.cps.toList i).map fun c => .str ⟨#[c]⟩ else none
  | _, _ => none
theorem ix_go [g : Gd X c] {B : Bs} {σ : Sg} {H : Hp} {st : MS} {fs : Fs} {x y : V} {a b d : D} {Q : VK} (R : Rel c B σ H st fs) (va : VD c.n B H a x) (vb : VD c.n B H b y) (e : fIx a b = some d) (k : KD c σ B fs Q d st) : rIx X.K x y H Q := by
  have hK : c.n.K = X.K := by rw [g.n]
  unfold fIx at e
  split at e
  · rename_i ds i
    obtain ⟨p, vs, rfl, h2, h3⟩ := va
    obtain ⟨v, hv, iv⟩ := atI_isDs h3 e
    exact .inl ⟨p, vs, i, v, rfl, vb, .inl h2, hv, k B H v (.refl B) R iv⟩
  · rename_i ds i
    obtain ⟨p, vs, rfl, h2, h3⟩ := va
    obtain ⟨v, hv, iv⟩ := atI_isDs h3 e
    exact .inr (.inl ⟨p, vs, i, v, rfl, vb, hK ▸ sqT_mono R.lv.sub h2, hv, k B H v (.refl B) R iv⟩)
  · rename_i z i
    split at e
    · rename_i q
      cases q2 : atI z.cps.toList i with
      | none => rw [q2] at e; cases e
      | some ch =>
        rw [q2] at e
        have e' : some (D.str ⟨#[ch]⟩) = some d := e
        cases e'
        exact .inr (.inr ⟨z, i, ch, va, vb, lim_ok q, q2, k B H _ (.refl B) R rfl⟩)
    · cases e
  · cases e
theorem ee_ix [g : Gd X c] {ma mb : Mo E1} (ha : EE X c W a ma) (hb : EE X c W b mb) (hs : PlainIx b := by exact fun _ _ => rfl) : EE X c W (.Subscript a b pos) (mOp2 fIx ma mb) :=
  ⟨peImp (pe_ix ix_seq ha.pe hb.pe hs) fun σ H Q h => op2_go (f := binaryOp .Add) (fun B σ H st fs x y a b d Q R va vb e k => ix_go R va vb e k) h⟩
/-- d[k] of a dict with int and text keys -/
def keyOf : D → Option Key
  | .int i => some (.inl i)
  | .str s => some (.inr s)
  | _ => none
def dLook (k : Key) : List Key → List D → Option D
  | q :: ks, d :: ds => if q = k then some d else dLook k ks ds
  | _, _ => none
end
/-! ### slices -/
def cutL {α : Type} (xs : List α) (lo hi : Option Int) : List α := (xs.drop (HT.sIx xs.length 0 lo)).take (HT.sIx xs.length xs.length hi - HT.sIx xs.length 0 lo)
theorem cutL_isDs {n : Kn} {B : Bs} {ds : List D} {vs : List V} {lo hi : Option Int} (h : IsDs n B ds vs) : IsDs n B (cutL ds lo hi) (cutV vs lo hi) := by
  unfold cutL cutV
  rw [h.length]
  exact (h.drop _).take _
def rO (c : Cn) (W : WX) (m : Mo (Option Int)) : TO := fun σ H Q => ∃ B st fs, Rel c B σ H st fs ∧ Post c W σ B (m st) fun o s => ∀ B' H', B.le B' → Rel c B' σ H' s fs → Q o H'
structure OE (X : Cx) (c : Cn) (W : WX) (e : Option Expr) (m : Mo (Option Int)) : Prop where
  po : L2.PO X e (rO c W m)
section
variable {X : Cx} {c : Cn} {W : WX} {tg it e a b : Expr} {lo hi : Option Expr} {es : List Expr} {pos p2 : Pos} {vs : List Nat}
@[simp ↓] def mNoPart (st : MS) : Rs (Option Int) := .ok none st
@[simp ↓] def mPart (m : Mo E1) (st : MS) : Rs (Option Int) := (m st).then fun e s => match val e s with
  | some (.int i) => .ok (some i) s
  | _ => .bad
theorem oe_none : OE X c W none mNoPart := ⟨⟨fun pins s σ H Q I ⟨B, st, fs, r, p⟩ => (po_none (X := X)).run pins s σ H Q I (p B H (.refl B) r)⟩⟩
theorem oe_some {m : Mo E1} (h : EE X c W e m) : OE X c W (some e) (mPart m) := ⟨⟨fun pins s σ H Q I ⟨B, st, fs, r, p⟩ => (po_some h.pe).run pins s σ H Q I ⟨B, st, fs, r, (Post.bind p).up (.refl B) fun x s' k B1 H1 v l1 r1 i1 => by
  cases q : val x s' with
  | none => rw [q] at k; exact k.elim
  | some d =>
    rw [q] at k
    cases d with
    | int i => exact ⟨i, val_ok r1 i1 q, k B1 H1 l1 r1⟩
    | _ => exact k.elim⟩⟩⟩
@[simp] def fSl : D → Option Int → Option Int → Option DR
  | .lst ds, lo, hi => some (.f (.l (cutL ds lo hi)))
  | .scr ns, lo, hi => some (.f (.l (cutL (ns.map D.int) lo hi)))
  | .tup ds, lo, hi => some (.d (.tup (cutL ds lo hi)))
  | .str z, lo, hi => if decide (z.length ≤ lim) = true then some (.d (.str (cutS z lo hi))) else none
  | _, _, _ => none
@[simp ↓] def mSl (m : Mo E1) (ml mh : Mo (Option Int)) (st : MS) : Rs EX := (m st).then fun e s1 => (ml s1).then fun lo s2 => (mh s2).then fun hi s3 => opt (((val e s3).bind fun x => fSl x lo hi).map DR.x) s3
theorem sl_go [g : Gd X c] {B : Bs} {σ : Sg} {H : Hp} {st : MS} {fs : Fs} {x : V} {a : D} {lo hi : Option Int} {d : DR} {Q : VK} (R : Rel c B σ H st fs) (va : VD c.n B H a x) (e : fSl a lo hi = some d) (k : KX c σ B fs Q d.x st) :
    (rSlL X.K x lo hi H Q ∨ rSlA X.K x lo hi H Q) ∨ rSlS x lo hi H Q := by
  have hK : c.n.K = X.K := by rw [g.n]
  unfold fSl at e
  split at e
  · rename_i ds
    cases e
    obtain ⟨p, vs, rfl, h2, h3⟩ := va
    refine .inl (.inl ⟨p, vs, rfl, .inl h2, fun q hq => k B _ q (.refl B) (R.newF (f := .l (cutL ds lo hi)) hq ⟨_, upd_same, cutL_isDs h3⟩)⟩)
  · rename_i ns
    cases e
    obtain ⟨p, rfl, h2⟩ := va
    refine .inl (.inl ⟨p, _, rfl, hK ▸ sqL_mono R.lv.sub h2, fun q hq => k B _ q (.refl B) (R.newF (f := .l (cutL (ns.map D.int) lo hi)) hq ⟨_, upd_same, cutL_isDs IsDs.of_ints⟩)⟩)
  · rename_i ds
    cases e
    obtain ⟨p, vs, rfl, h2, h3⟩ := va
    refine .inl (.inr ⟨p, vs, rfl, hK ▸ sqT_mono R.lv.sub h2, fun hw => ?_, fun _ q hq => ?_⟩)
    · have e1 : cutL ds lo hi = ds := by
        unfold cutL
        rw [h3.length] at hw
        rw [hw.1, hw.2, List.drop_zero, Nat.sub_zero, List.take_length]
      have k' : KX c σ B fs Q (.e (.d (.tup ds))) st := by rw [← e1]; exact k
      exact k' B H _ (.refl B) R ⟨p, vs, rfl, h2, h3⟩
    · obtain ⟨le, r2⟩ := R.newD (o := .tup (cutV vs lo hi)) hq
      exact k _ _ _ le r2 ⟨q, _, rfl, .inl (.inl upd_same), (cutL_isDs h3).mono le _ _⟩
  · split at e
    · rename_i z q
      cases e
      exact .inr ⟨z, va, lim_ok q, k B H _ (.refl B) R rfl⟩
    · cases e
  · cases e
theorem ge_sl [g : Gd X c] {m : Mo E1} {ml mh : Mo (Option Int)} (h : EE X c W e m) (hl : OE X c W lo ml) (hh : OE X c W hi mh) : GE X c W (.Subscript e (.Slice lo hi none p2) pos) (mSl m ml mh) :=
  ⟨peImp (pe_slice ((sl_list.or sl_tupA).or sl_str) h.pe hl.po hh.po) fun σ H Q ⟨B, st, fs, r, p⟩ => ⟨B, st, fs, r, (Post.bind p).up (.refl B) fun x s1 k B1 H1 v1 l1 r1 i1 =>
    ⟨B1, s1, fs, r1, (Post.bind k).up l1 fun o s2 k2 B2 H2 l2 r2 => ⟨B2, s2, fs, r2, (Post.bind k2).up (l1.trans l2) fun u s3 k3 B3 H3 l3 r3 => by
      cases q : val x s3 with
      | none => rw [q] at k3; exact k3.elim
      | some d =>
        rw [q] at k3
        cases q2 : fSl d o u with
        | none => simp only [Option.bind_some, q2, Option.map_none] at k3; exact k3.elim
        | some z =>
          simp only [Option.bind_some, q2, Option.map_some] at k3
          exact sl_go r3 (val_ok r3 (i1.mono (l2.trans l3)) q) q2 (KX.up k3 ((l1.trans l2).trans l3))⟩⟩⟩⟩
/-! ### in, not in -/
def fIn (neg : Bool) : D → D → Option D
  | x, .lst ds => if shp x && shp (.lst ds) then some (.bl (if neg then !(ds.any fun z => eqD z x) else ds.any fun z => eqD z x)) else none
  | x, .tup ds => if flatD x && ds.all flatD then some (.bl (if neg then !(ds.any fun z => eqD z x) else ds.any fun z => eqD z x)) else none
  | .str x, .str y => some (.bl (if neg then !(!(Builtin.Str.occurrences y x 0 y.length 1).isEmpty) else !(Builtin.Str.occurrences y x 0 y.length 1).isEmpty))
  | _, _ => none
where flatD : D → Bool
  | .non => true
  | .bl _ => true
  | .int _ => true
  | .str _ => true
  | _ => false
theorem toPs_map (ds : List D) : toPs ds = ds.map toP := by
  induction ds with
  | nil => rfl
  | cons d ds ih => rw [toPs, ih]; rfl
theorem flat_v {n : Kn} {B : Bs} {d : D} {v : V} (h : IsD n B d v) (f : fIn.flatD d = true) : flatV v = true := by
  cases d with
  | non => cases (show v = .non from h); rfl
  | bl b => cases (show v = .bl b from h); rfl
  | int b => cases (show v = .int b from h); rfl
  | str b => cases (show v = .str b from h); rfl
  | _ => cases f
theorem flat_eq {n : Kn} {B : Bs} {d d' : D} {v v' : V} (h : IsD n B d v) (h' : IsD n B d' v') (f : fIn.flatD d = true) (f' : fIn.flatD d' = true) : eqV v v' = eqD d d' := by
  cases d with
  | non =>
    cases (show v = .non from h)
    cases d' with
    | non => cases (show v' = .non from h'); rfl
    | bl b => cases (show v' = .bl b from h'); rfl
    | int b => cases (show v' = .int b from h'); rfl
    | str b => cases (show v' = .str b from h'); rfl
    | _ => cases f'
  | bl i =>
    cases (show v = .bl i from h)
    cases d' with
    | non => cases (show v' = .non from h'); rfl
    | bl b => cases (show v' = .bl b from h'); rfl
    | int b => cases (show v' = .int b from h'); rfl
    | str b => cases (show v' = .str b from h'); rfl
    | _ => cases f'
  | int i =>
    cases (show v = .int i from h)
    cases d' with
    | non => cases (show v' = .non from h'); rfl
    | bl b => cases (show v' = .bl b from h'); rfl
    | int b => cases (show v' = .int b from h'); rfl
    | str b => cases (show v' = .str b from h'); rfl
    | _ => cases f'
  | str i =>
    cases (show v = .str i from h)
    cases d' with
    | non => cases (show v' = .non from h'); rfl
    | bl b => cases (show v' = .bl b from h'); rfl
    | int b => cases (show v' = .int b from h'); rfl
    | str b => cases (show v' = .str b from h'); rfl
    | _ => cases f'
  | _ => cases f
theorem flat_view {n : Kn} {B : Bs} {H : Hp} {d : D} {v : V} (h : VD n B H d v) (f : fIn.flatD d = true) : IsD n B d v := by
  cases d with
  | non => exact h
  | bl b => exact h
  | int b => exact h
  | str b => exact h
  | _ => cases f
theorem in_any {n : Kn} {B : Bs} {x : D} {v : V} (hx : IsD n B x v) (fx : fIn.flatD x = true) : ∀ {ds : List D} {vs : List V}, IsDs n B ds vs → ds.all fIn.flatD = true → vs.all flatV = true ∧ inV v vs = ds.any fun z => eqD z x
  | [], vs, h, _ => by cases (show vs = [] from h); exact ⟨rfl, rfl⟩
  | d :: ds, vs, h, f => by
    obtain ⟨w, r, rfl, h2, h3⟩ := h
    rw [List.all_cons, Bool.and_eq_true] at f
    obtain ⟨g1, g2⟩ := in_any hx fx h3 f.2
    refine ⟨by rw [List.all_cons, flat_v h2 f.1, g1]; rfl, ?_⟩
    unfold inV at g2 ⊢
    rw [List.any_cons, List.any_cons, g2, flat_eq h2 hx f.1 fx]
theorem in_go [g : Gd X c] {neg : Bool} {B : Bs} {σ : Sg} {H : Hp} {st : MS} {fs : Fs} {x y : V} {a b d : D} {Q : VK} (R : Rel c B σ H st fs) (va : VD c.n B H a x) (vb : VD c.n B H b y) (e : fIn neg a b = some d) (k : KD c σ B fs Q d st) :
    ((∃ d ds, Dp X.K H x d ∧ Dp X.K H y (.list ds) ∧ SeqAt.shaped d = true ∧ SeqAt.shaped (.list ds) = true ∧ Q (.bl (if neg then !(ds.any fun z => PyData.eqv z d) else ds.any fun z => PyData.eqv z d)) H) ∨ rIn X.K neg x y H Q) ∨
      (∃ i j, x = .str i ∧ y = .str j ∧ Q (.bl (if neg then !(!(Builtin.Str.occurrences j i 0 j.length 1).isEmpty) else !(Builtin.Str.occurrences j i 0 j.length 1).isEmpty)) H) := by
  have hK : c.n.K = X.K := by rw [g.n]
  unfold fIn at e
  split at e
  · split at e
    · rename_i ds q
      rw [Bool.and_eq_true] at q
      cases e
      refine .inl (.inl ⟨toP a, toPs ds, hK ▸ dp_view R.lv.sub va (SeqAt.canLay_of_shaped q.1), hK ▸ dp_view (d := .lst ds) R.lv.sub vb (SeqAt.canLay_of_shaped q.2), q.1, q.2, ?_⟩)
      have e2 : ((toPs ds).any fun z => PyData.eqv z (toP a)) = ds.any fun z => eqD z a := by
        rw [toPs_map, List.any_map]
        rfl
      rw [e2]
      exact k B H _ (.refl B) R rfl
    · cases e
  · split at e
    · rename_i ds q
      rw [Bool.and_eq_true] at q
      cases e
      obtain ⟨p, vs, rfl, h2, h3⟩ := vb
      obtain ⟨g1, g2⟩ := in_any (flat_view va q.1) q.1 h3 q.2
      refine .inl (.inr ⟨p, vs, rfl, .inr (hK ▸ sqT_mono R.lv.sub h2), flat_v (flat_view va q.1) q.1, g1, ?_⟩)
      rw [g2]
      exact k B H _ (.refl B) R rfl
    · cases e
  · rename_i i j
    cases e
    exact .inr ⟨i, j, va, vb, k B H _ (.refl B) R rfl⟩
  · cases e
theorem ok_in [g : Gd X c] (hu : X.A.units + 65 < cLine) : Ok2 X c (compareOp .In) (fIn false) := ⟨_, ((op_inD hu).or op_in_seq).or op_in_str, fun B σ H st fs x y a b d Q R va vb e k => in_go (neg := false) R va vb e k⟩
theorem ok_notin [g : Gd X c] (hu : X.A.units + 65 < cLine) : Ok2 X c (compareOp .NotIn) (fIn true) := ⟨_, ((op_notInD hu).or op_notIn_seq).or op_notin_str, fun B σ H st fs x y a b d Q R va vb e k => in_go (neg := true) R va vb e k⟩
/-! ### is -/
@[simp] def fIsN (neg : Bool) : D → D → Option D
  | .non, .non => some (.bl (!neg))
  | .bl a, .bl b => some (.bl (if neg then !decide (a = b) else decide (a = b)))
  | .non, _ => none
  | _, .non => some (.bl neg)
  | _, _ => none
theorem isn_go {neg : Bool} {B : Bs} {σ : Sg} {H : Hp} {st : MS} {fs : Fs} {x y : V} {a b d : D} {Q : VK} (R : Rel c B σ H st fs) (va : VD c.n B H a x) (vb : VD c.n B H b y) (e : fIsN neg a b = some d) (k : KD c σ B fs Q d st) :
    (y = .non ∧ Q (.bl (if neg then !decide (x = .non) else decide (x = .non))) H) ∨ (∃ a b : Bool, x = .bl a ∧ y = .bl b ∧ Q (.bl (if neg then !decide (a = b) else decide (a = b))) H) := by
  have key : ∀ bb, x ≠ .non → d = .bl neg → b = .non → y = bb → bb = .non → (y = .non ∧ Q (.bl (if neg then !decide (x = .non) else decide (x = .non))) H) := fun bb h1 h2 _ h4 h5 => by
    subst h2 h5
    refine ⟨h4, ?_⟩
    rw [decide_eq_false h1]
    have := k B H (.bl neg) (.refl B) R rfl
    cases neg <;> exact this
  unfold fIsN at e
  split at e
  · cases e
    refine .inl ⟨vb, ?_⟩
    rw [(show x = .non from va), decide_eq_true rfl]
    have := k B H (.bl (!neg)) (.refl B) R rfl
    cases neg <;> exact this
  · rename_i p q
    cases e
    exact .inr ⟨p, q, va, vb, k B H _ (.refl B) R rfl⟩
  · cases e
  · cases e
    refine .inl (key .non (fun z => ?_) rfl rfl vb rfl)
    subst z
    cases a with
    | non => simp_all
    | bl b => cases (show V.non = .bl b from va)
    | int b => cases (show V.non = .int b from va)
    | str b => cases (show V.non = .str b from va)
    | tup ds => obtain ⟨_, _, z, _⟩ := va; cases z
    | lst ds => obtain ⟨_, _, z, _⟩ := va; cases z
    | dct ks ds => obtain ⟨_, _, z, _⟩ := va; cases z
    | dctT ks ds => obtain ⟨_, _, z, _⟩ := va; cases z
    | ins c fs ds => obtain ⟨_, _, _, _, z, _⟩ := va; cases z
    | live k => obtain ⟨_, z, _⟩ := va; cases z
    | scr k => obtain ⟨_, z, _⟩ := va; cases z
  · cases e
theorem ok_is : Ok2 X c (compareOp .Is) (fIsN false) := ⟨_, op_isN.or op_isBl, fun B σ H st fs x y a b d Q R va vb e k => isn_go (neg := false) R va vb e k⟩
theorem ok_isnot : Ok2 X c (compareOp .IsNot) (fIsN true) := ⟨_, op_notN.or op_notBl, fun B σ H st fs x y a b d Q R va vb e k => isn_go (neg := true) R va vb e k⟩
end
end Y
namespace Y
open PySem PySem.Spec PyProof.Rows L2
theorem Rel.perm {c : Cn} {B : Bs} {σ : Sg} {H : Hp} {st : MS} {fs fs' : Fs} (r : Rel c B σ H st fs) (p : fs'.Perm fs) : Rel c B σ H st fs' := by
  obtain ⟨ad, τ, h1, h2, h3⟩ := r.sl
  exact ⟨r.ext, r.lv, r.len, ⟨ad, τ, h1, fun i a h => ⟨(h2 i a h).1, fun q hq => (h2 i a h).2 q (p.mem_iff.mp hq)⟩, h3⟩, fun q hq => r.fr q (p.mem_iff.mp hq), (p.map _).nodup_iff.mpr r.fnd⟩
/-- a live thing is written -/
theorem Rel.writeL {c : Cn} {B : Bs} {σ : Sg} {H : Hp} {st : MS} {k : Nat} {a : Addr} {o : HO} {f f' : Fr} {fs : Fs} (r : Rel c B σ H st fs) (hk : st.g[k]? = some f) (hA : B.A k = some a) (hf : FrOk c.n B (upd H a o) a f') :
    Rel c B σ (upd H a o) { st with g := st.g.set k f' } fs := by
  obtain ⟨a', h1, h2, h3⟩ := r.lv.ob k f hk
  rw [hA] at h1
  cases h1
  have hkl : k < st.g.length := (List.getElem?_eq_some_iff.mp hk).1
  have keep : ∀ b u, b ≠ a → H b = some u → upd H a o b = some u := fun b u hb h => by rw [upd_ne hb]; exact h
  have th : ∀ b, H b ≠ none → upd H a o b ≠ none := fun b h => by
    by_cases hb : b = a
    · rw [hb, upd_same]; simp
    · rw [upd_ne hb]; exact h
  have fne : ∀ b, Free c B H b → b ≠ a := fun b f1 e => f1.nl k (by rw [e]; exact hA)
  have nfree : ∀ b, Free c B H b → Free c B (upd H a o) b := fun b f1 => ⟨f1.h0, f1.nl, f1.hs, th b f1.th⟩
  refine ⟨⟨r.ext.le, r.ext.n0, r.ext.nl, fun b u h hk' => keep b u ?_ (r.ext.fr b u h hk'), fun b h => th b (r.ext.tr b h)⟩, ⟨fun b u h => keep b u (ne_of_none h h2) (r.lv.sub b u h), r.lv.inj, fun j b h => by rw [List.length_set]; exact r.lv.dom j b h, fun j f2 h => ?_⟩, r.len, ?_, fun p hp => ?_, r.fnd⟩
  · intro e
    subst e
    rcases r.ext.nl k b hA with z | z
    · exact hk' k z
    · rw [z] at h; cases h
  · by_cases e : k = j
    · subst e
      have h' : (st.g.set k f')[k]? = some f2 := h
      rw [List.getElem?_set_self hkl] at h'
      cases h'
      exact ⟨a, hA, h2, hf⟩
    · have h' : (st.g.set k f')[j]? = some f2 := h
      rw [List.getElem?_set_ne e] at h'
      obtain ⟨b, g1, g2, g3⟩ := r.lv.ob j f2 h'
      have hb : b ≠ a := fun e2 => e (r.lv.inj k j a hA (by rw [← e2]; exact g1))
      exact ⟨b, g1, g2, g3.mono (.refl B) fun u hu => keep b u hb hu⟩
  · obtain ⟨ad, τ, h1, h2, h3⟩ := r.sl
    refine ⟨ad, τ, h1, fun i b h => ⟨nfree b (h2 i b h).1, (h2 i b h).2⟩, fun i sv h => ?_⟩
    obtain ⟨v, e, q⟩ := h3 i sv h
    refine ⟨v, e, ?_⟩
    cases sv with
    | d x => exact q
    | m f' =>
      obtain ⟨b, e1, e2, e3⟩ := q
      exact ⟨b, e1, e2, e3.mono (.refl B) fun u hu => keep b u (fne b (h2 i b e1).1) hu⟩
  · obtain ⟨g1, g2⟩ := r.fr p hp
    exact ⟨nfree _ g1, g2.mono (.refl B) fun u hu => keep p.1 u (fne _ g1) hu⟩
section
variable {X : Cx} {c : Cn} {W : WX} {tg it e a b : Expr} {es : List Expr} {pos : Pos} {vs : List Nat}
/-! ### a thing that is written: a slot's own, a live one -/
@[simp] def thing : E1 → MS → Option Fr
  | .s i, st => match st.sl[i]? with
    | some (some (.m f)) => some f
    | _ => none
  | .d (.live k), st => st.g[k]?
  | _, _ => none
@[simp] def putT : E1 → Fr → MS → MS
  | .s i, f, st => { st with sl := st.sl.set i (some (.m f)) }
  | .d (.live k), f, st => { st with g := st.g.set k f }
  | _, _, st => st
theorem thing_ok {B : Bs} {σ : Sg} {H : Hp} {st : MS} {fs : Fs} {e : E1} {f : Fr} {v : V} (r : Rel c B σ H st fs) (i : IsE c.n B σ v e) (h : thing e st = some f) :
    ∃ a, v = .ref a ∧ FrOk c.n B H a f ∧ ∀ o f', FrOk c.n B (upd H a o) a f' → Rel c B σ (upd H a o) (putT e f' st) fs := by
  cases e with
  | s j =>
    have i' : σ[j]? = some (some v) := i
    cases q : st.sl[j]? with
    | none => simp [thing, q] at h
    | some o =>
      cases o with
      | none => simp [thing, q] at h
      | some sv =>
        cases sv with
        | d y => simp [thing, q] at h
        | m f2 =>
          simp [thing, q] at h
          subst h
          obtain ⟨a, rfl, r2⟩ := r.free q i'
          refine ⟨a, rfl, (r2.fr _ List.mem_cons_self).2, fun o f' hf => ?_⟩
          have r3 := (r2.writeF hf).putback i'
          have e3 : ({ sl := (st.sl.set j none).set j (some (SV.m f')), g := st.g } : MS) = { st with sl := st.sl.set j (some (SV.m f')) } := by rw [List.set_set]
          show Rel c B σ (upd H a o) { st with sl := st.sl.set j (some (SV.m f')) } fs
          rw [← e3]
          exact r3
  | d x =>
    cases x with
    | live k =>
      have h' : st.g[k]? = some f := h
      obtain ⟨a, rfl, hA, h3⟩ := live_view r i h'
      exact ⟨a, rfl, h3, fun o f' hf => r.writeL h' hA hf⟩
    | _ => cases h
/-- xs.append(e) -/
@[simp ↓] def mAppend (mx : Mo E1) (me : Mo D) (st : MS) : RSt := (mx st).st fun x s1 => match thing x s1 with
  | some (.l _) => (me s1).st fun d s2 => match thing x s2 with
    | some (.l ds) => if decide (ds.length < lim) = true then .nx (putT x (.l (ds ++ [d])) s2) else .bad
    | _ => .bad
  | _ => .bad
theorem lim_lt {n : Nat} (h : decide (n < lim) = true) : n < sizeLine := by
  have := of_decide_eq_true h
  rw [sizeLine_eq]
  unfold lim at this
  omega
theorem se_append [g : Gd X c] {mx : Mo E1} {me : Mo D} {p1 p2 : Pos} (hx : EE X c W a mx) (he : DE X c W b me)
    (hbase : attributeBase a "append" X.env (eval a X.env) = eval a X.env := by rfl)
    (hfew : ((backTo p2 (starEach [b] X.env)).all (fun x => !x.1) && (backToKw p2 (keywordEach [] X.env)).all (fun x => x.1.isSome)
      && decide ([b].length + ([] : List Keyword).length + (if ([] : List Keyword).isEmpty then 0 else 1) < 30)) = true := by rfl)
    (hline : (p1.endLine == p2.line) = true := by rfl) (hs : starEach [b] X.env = (false, eval b X.env) :: starEach [] X.env := by rfl) (hplain : (backTo p2 (starEach [] X.env)).any (·.1) = false := by rfl)
    (hsw : swapsWith (.Call (.Attribute a "append" p1) [b] [] p2) none pos.line X.env = pure false := by rfl) :
    SE X c W (.Expr (.Call (.Attribute a "append" p1) [b] [] p2) pos) (mAppend mx me) :=
  ⟨psImp (ps_expr (pe_bm PySem.F.plainAttrs_list PySem.F.slot_list_append PySem.F.type_list_append mt_append hx.pe (pa_cons he.pe pa_nil hs) hbase hfew hline hs hplain) hsw) fun D σ H ⟨B, st, r, p⟩ => ⟨B, st, [], r, (PostS.bind p).up (.refl B) fun x s1 k B1 H1 v1 l1 r1 i1 => by
    have hK : c.n.K = X.K := by rw [g.n]
    cases q : thing x s1 with
    | none => rw [q] at k; exact k.elim
    | some f =>
      rw [q] at k
      cases f with
      | l ds =>
        obtain ⟨p, rfl, ⟨vs, hvs, _⟩, _⟩ := thing_ok r1 i1 q
        refine ⟨.inl ⟨rfl, vs, .inl (.inl hvs)⟩, B1, s1, [], r1, (PostS.bind (σ := σ) k).up l1 fun d s2 k2 B2 H2 v2 l2 r2 i2 => ?_⟩
        cases q2 : thing x s2 with
        | none => rw [q2] at k2; exact k2.elim
        | some f2 =>
          rw [q2] at k2
          cases f2 with
          | l ds2 =>
            simp only at k2
            split at k2
            · rename_i hl
              obtain ⟨p', e', ⟨ws, hws, iws⟩, wr⟩ := thing_ok r2 (i1.mono l2) q2
              cases e'
              refine ⟨p, ws, v2, rfl, rfl, hws, by rw [iws.length]; exact lim_lt hl, ?_⟩
              exact k2 B2 σ _ (l1.trans l2) (wr _ (.l (ds2 ++ [d])) ⟨ws ++ [v2], upd_same, iws.append ⟨v2, [], rfl, i2, rfl⟩⟩)
            · exact k2.elim
          | _ => exact k2.elim
      | _ => exact k.elim⟩⟩
/-- xs[i] = e -/
@[simp ↓] def mSetIx (me : Mo D) (mx mi : Mo E1) (st : MS) : RSt := (me st).st fun d s1 => (mx s1).st fun x s2 => (mi s2).st fun i s3 => match val i s3, thing x s3 with
  | some (.int k), some (.l ds) => (match ixN ds.length k with
    | some j => .nx (putT x (.l (ds.set j d)) s3)
    | none => .bad)
  | _, _ => .bad
theorem se_setIx [g : Gd X c] {v : Expr} {me : Mo D} {mx mi : Mo E1} {p : Pos} (hv : DE X c W v me) (ha : EE X c W a mx) (hb : EE X c W b mi)
    (has : ∀ w, assign (.Subscript a b p) X.env w = (do
      let ov ← holding [w] (eval a X.env)
      let iv ← holding [w, ov] (eval b X.env)
      standAt p
      holding [w, ov, iv] (setItem ov iv w)
      release [w, ov, iv] []) := by intro _; rfl)
    (hs : swapsWithSole [.Subscript a b p] v pos.line X.env = pure false := by rfl) (hw : swappedStores [.Subscript a b p] v X.env = pure none := by rfl)
    (h1 : (assignEach [.Subscript a b p] X.env).map (·.2) = [assign (.Subscript a b p) X.env] := by rfl) : SE X c W (.Assign [.Subscript a b p] v pos) (mSetIx me mx mi) :=
  ⟨psImp (ps_asg hv.pe (pg_sub ha.pe hb.pe set_list has) hs hw h1) fun D σ H ⟨B, st, r, p⟩ => ⟨B, st, [], r, (PostS.bind p).up (.refl B) fun d s1 k B1 H1 v1 l1 r1 i1 =>
    ⟨B1, s1, [], r1, (PostS.bind (σ := σ) k).up l1 fun x s2 k2 B2 H2 v2 l2 r2 i2 => ⟨B2, s2, [], r2, (PostS.bind (σ := σ) k2).up (l1.trans l2) fun i s3 k3 B3 H3 v3 l3 r3 i3 => by
      split at k3
      · rename_i kk ds e1 e2
        split at k3
        · rename_i j ej
          obtain ⟨p, e', ⟨ws, hws, iws⟩, wr⟩ := thing_ok r3 (i2.mono l3) e2
          subst e'
          refine ⟨p, ws, kk, j, rfl, val_ok r3 i3 e1, hws, by rw [iws.length]; exact ej, ?_⟩
          exact k3 B3 σ _ ((l1.trans l2).trans l3) (wr _ (.l (ds.set j d)) ⟨ws.set j v1, upd_same, IsDs.set (IsD.mono (l2.trans l3) d v1 i1) j iws⟩)
        · exact k3.elim
      · exact k3.elim⟩⟩⟩⟩
/-! ### a, b = x, y -/
inductive PV where
  | d (x : D) | f (fr : Fr)
@[simp ↓] def pvOf : EX → MS → Rs PV
  | .f fr, s => .ok (.f fr) s
  | .e e, s => (keepE e s).then fun x s => .ok (.d x) s
def PVk (c : Cn) (B : Bs) : PV → V → Option (Addr × Fr) → Prop
  | .d x, v, o => o = none ∧ IsD c.n B x v
  | .f fr, v, o => ∃ a, v = .ref a ∧ o = some (a, fr)
def oFs : Option (Addr × Fr) → Fs → Fs
  | none, fs => fs
  | some p, fs => p :: fs
structure XE1 (X : Cx) (c : Cn) (W : WX) (e : Expr) (m : Mo PV) : Prop where
  pe : PE X e (fun σ H Q => ∃ B st fs, Rel c B σ H st fs ∧ Post c W σ B (m st) fun pv s => ∀ B' H' v o, B.le B' → Rel c B' σ H' s (oFs o fs) → PVk c B' pv v o → Q v H')
@[simp ↓] def mPv (m : Mo EX) (st : MS) : Rs PV := (m st).then pvOf
theorem xe_of {m : Mo EX} (h : GE X c W e m) : XE1 X c W e (mPv m) := ⟨peImp h.pe fun σ H Q ⟨B, st, fs, r, p⟩ => ⟨B, st, fs, r, (Post.bind p).up (.refl B) fun x s k => by
  cases x with
  | f fr => exact fun B' H' a l r' => k B' H' _ (some (a, fr)) l r' ⟨a, rfl, rfl⟩
  | e e =>
    intro B' H' v l r' i
    cases q : keepE e s with
    | ok y s' =>
      obtain ⟨B2, l2, r2, hd⟩ := keepE_pt r' i q
      simp only [pvOf, q, then_ok] at k
      exact k B2 H' v none (l.trans l2) r2 ⟨rfl, hd⟩
    | ex y as s' => exact absurd q keepE_ex
    | bad =>
      simp only [pvOf, q, then_bad] at k
      exact k.elim⟩⟩
@[simp ↓] def stPv (i : Nat) : PV → MS → MS
  | .d x, s => { s with sl := s.sl.set i (some (.d x)) }
  | .f fr, s => { s with sl := s.sl.set i (some (.m fr)) }
theorem pv_store {B : Bs} {σ : Sg} {H : Hp} {s : MS} {fs : Fs} {pv : PV} {v : V} {o : Option (Addr × Fr)} {i : Nat} (r : Rel c B σ H s (oFs o fs)) (k : PVk c B pv v o) (hi : i < c.nn) : Rel c B (σ.set i (some v)) H (stPv i pv s) fs := by
  cases pv with
  | d x =>
    obtain ⟨rfl, h⟩ := k
    exact r.store (by rw [r.len]; exact hi) h
  | f fr =>
    obtain ⟨a, rfl, rfl⟩ := k
    exact r.storeF (by rw [r.len]; exact hi)
theorem PVk.mono {B B' : Bs} {pv : PV} {v : V} {o : Option (Addr × Fr)} (h : PVk c B pv v o) (l : B.le B') : PVk c B' pv v o := by
  cases pv with
  | d x => exact ⟨h.1, IsD.mono l x v h.2⟩
  | f fr => exact h
theorem oFs_swap {o o' : Option (Addr × Fr)} {fs : Fs} : (oFs o (oFs o' fs)).Perm (oFs o' (oFs o fs)) := by
  cases o <;> cases o' <;> first | exact .refl _ | exact .swap ..
@[simp ↓] def mPar2 (i j : Nat) (m n : Mo PV) (st : MS) : RSt := (m st).st fun x s1 => (n s1).st fun y s2 => .nx (stPv j y (stPv i x s2))
theorem se_par2 [g : Gd X c] (i j : Nat) {x y : Str} {m n : Mo PV} {px py pt pt2 : Pos} {kt k2 : Nat} (hi : X.N[i]? = some x) (hj : X.N[j]? = some y) (hij : i ≠ j) (hx : X.env.scope.names.lookup x = some .local) (hy : X.env.scope.names.lookup y = some .local)
    (ha : XE1 X c W a m) (hb : XE1 X c W b n) (h1 : starEach [a, b] X.env = (false, eval a X.env) :: starEach [b] X.env := by rfl) (h2 : starEach [b] X.env = (false, eval b X.env) :: starEach [] X.env := by rfl)
    (hw : swappedStores [.Tuple [.Name x px, .Name y py] kt pt] (.Tuple [a, b] k2 pt2) X.env = pure (some [x, y]) := by rfl)
    (hs : swapsWithSole [.Tuple [.Name x px, .Name y py] kt pt] (.Tuple [a, b] k2 pt2) pos.line X.env = pure false := by rfl) : SE X c W (.Assign [.Tuple [.Name x px, .Name y py] kt pt] (.Tuple [a, b] k2 pt2) pos) (mPar2 i j m n) := by
  have li : i < c.nn := by rw [g.nn]; exact (List.getElem?_eq_some_iff.mp hi).1
  have lj : j < c.nn := by rw [g.nn]; exact (List.getElem?_eq_some_iff.mp hj).1
  exact ⟨psImp (ps_par g.calm g.nd hi hj hij hx hy (pa_cons ha.pe (pa_cons hb.pe pa_nil h2) h1) hw hs) fun D σ H ⟨B, st, r, p⟩ => ⟨B, st, [], r, (PostS.bind p).up (.refl B) fun u s1 k B1 H1 v1 o1 l1 r1 i1 =>
    ⟨B1, s1, _, r1, (PostS.bind (σ := σ) k).up l1 fun w s2 k2 B2 H2 v2 o2 l2 r2 i2 => ⟨v1, v2, rfl, k2 B2 _ H2 (l1.trans l2) (pv_store (pv_store (r2.perm oFs_swap) (i1.mono l2) li) i2 lj)⟩⟩⟩⟩
@[simp ↓] def mPar3 (i j k : Nat) (m n o : Mo PV) (st : MS) : RSt := (m st).st fun x s1 => (n s1).st fun y s2 => (o s2).st fun z s3 => .nx (stPv k z (stPv j y (stPv i x s3)))
theorem se_par3 [g : Gd X c] (i j k : Nat) {x y z : Str} {cc : Expr} {m n o : Mo PV} {px py pz pt pt2 : Pos} {kt k2 : Nat} (hi : X.N[i]? = some x) (hj : X.N[j]? = some y) (hk : X.N[k]? = some z) (hij : i ≠ j) (hik : i ≠ k) (hjk : j ≠ k)
    (hx : X.env.scope.names.lookup x = some .local) (hy : X.env.scope.names.lookup y = some .local) (hz : X.env.scope.names.lookup z = some .local) (ha : XE1 X c W a m) (hb : XE1 X c W b n) (hc : XE1 X c W cc o)
    (h1 : starEach [a, b, cc] X.env = (false, eval a X.env) :: starEach [b, cc] X.env := by rfl) (h2 : starEach [b, cc] X.env = (false, eval b X.env) :: starEach [cc] X.env := by rfl) (h3 : starEach [cc] X.env = (false, eval cc X.env) :: starEach [] X.env := by rfl)
    (hw : swappedStores [.Tuple [.Name x px, .Name y py, .Name z pz] kt pt] (.Tuple [a, b, cc] k2 pt2) X.env = pure (some [x, y, z]) := by rfl)
    (hs : swapsWithSole [.Tuple [.Name x px, .Name y py, .Name z pz] kt pt] (.Tuple [a, b, cc] k2 pt2) pos.line X.env = pure false := by rfl) : SE X c W (.Assign [.Tuple [.Name x px, .Name y py, .Name z pz] kt pt] (.Tuple [a, b, cc] k2 pt2) pos) (mPar3 i j k m n o) := by
  have li : i < c.nn := by rw [g.nn]; exact (List.getElem?_eq_some_iff.mp hi).1
  have lj : j < c.nn := by rw [g.nn]; exact (List.getElem?_eq_some_iff.mp hj).1
  have lk : k < c.nn := by rw [g.nn]; exact (List.getElem?_eq_some_iff.mp hk).1
  refine ⟨psImp (ps_par3 g.calm g.nd hi hj hk hij hik hjk hx hy hz (pa_cons ha.pe (pa_cons hb.pe (pa_cons hc.pe pa_nil h3) h2) h1) hw hs) fun D σ H ⟨B, st, r, p⟩ => ⟨B, st, [], r, (PostS.bind p).up (.refl B) fun u s1 k B1 H1 v1 o1 l1 r1 i1 =>
    ⟨B1, s1, _, r1, (PostS.bind (σ := σ) k).up l1 fun w s2 k2 B2 H2 v2 o2 l2 r2 i2 => ⟨B2, s2, _, r2, (PostS.bind (σ := σ) k2).up (l1.trans l2) fun w' s3 k3 B3 H3 v3 o3 l3 r3 i3 => ⟨v1, v2, v3, rfl, ?_⟩⟩⟩⟩⟩
  refine k3 B3 _ H3 ((l1.trans l2).trans l3) (pv_store (pv_store (pv_store (r3.perm ?_) (i1.mono (l2.trans l3)) li) (i2.mono l3) lj) i3 lk)
  cases o1 <;> cases o2 <;> cases o3 <;> first
    | exact .refl _
    | exact .swap ..
    | exact ((List.Perm.swap _ _ _).trans ((List.Perm.swap _ _ _).cons _)).trans (.swap ..)
/-- any target = any value -/
@[simp ↓] def mAsg (m : Mo D) (g : Gt) (st : MS) : RSt := (m st).st fun x s => match g x s with
  | some s' => .nx s'
  | none => .bad
theorem se_asg {m : Mo D} {g : Gt} (h : DE X c W e m) (hg : TGE X c vs tg g) (hs : swapsWithSole [tg] e pos.line X.env = pure false := by rfl) (hw : swappedStores [tg] e X.env = pure none := by rfl)
    (h1 : (assignEach [tg] X.env).map (·.2) = [assign tg X.env] := by rfl) : SE X c W (.Assign [tg] e pos) (mAsg m g) :=
  ⟨psImp (ps_asg h.pe hg.pg hs hw h1) fun D σ H ⟨B, st, r, p⟩ => ⟨B, st, [], r, (PostS.bind p).up (.refl B) fun x s k B1 H1 v1 l1 r1 i1 => ⟨B1, s, x, [], r1, i1, by
    cases q : g x s with
    | none => rw [q] at k; exact k
    | some s' =>
      rw [q] at k
      exact fun B2 σ2 l2 r2 _ => k B2 σ2 H1 (l1.trans l2) r2⟩⟩⟩
/-! ### built-ins -/
theorem paired1 {α β : Type} {R : α → β → Prop} {x : α} {ys : List β} (h : Paired R [x] ys) : ∃ y, ys = [y] ∧ R x y := by
  cases h with
  | cons r t =>
    cases t
    exact ⟨_, rfl, r⟩
theorem paired2 {α β : Type} {R : α → β → Prop} {x x' : α} {ys : List β} (h : Paired R [x, x'] ys) : ∃ y y', ys = [y, y'] ∧ R x y ∧ R x' y' := by
  cases h with
  | cons r t =>
    obtain ⟨y, rfl, r'⟩ := paired1 t
    exact ⟨_, _, rfl, r, r'⟩
@[simp] def dInt (i : Int) : Option DR := some (.d (.int i))
@[simp] def dBl (b : Bool) : Option DR := some (.d (.bl b))
@[simp] def fLen : List D → Option DR
  | [.lst ds] => dInt ds.length
  | [.tup ds] => dInt ds.length
  | [.str z] => if decide (z.length ≤ lim) = true then dInt z.length else none
  | _ => none
theorem ok_len [g : Gd X c] : OkC X c (.builtin "len") fLen := ⟨_, call_len, fun B σ H st fs vs ds d Q R va e k => by
  have hK : c.n.K = X.K := by rw [g.n]
  unfold fLen at e
  split at e
  · obtain ⟨v, rfl, h⟩ := paired1 va
    cases e
    obtain ⟨p, ws, rfl, h2, h3⟩ := h
    rw [← h3.length] at k
    exact ⟨_, _, rfl, .inl ⟨ws, .inl h2, rfl⟩, k B H _ (.refl B) R rfl⟩
  · obtain ⟨v, rfl, h⟩ := paired1 va
    cases e
    obtain ⟨p, ws, rfl, h2, h3⟩ := h
    rw [← h3.length] at k
    exact ⟨_, _, rfl, .inr ⟨ws, hK ▸ sqT_mono R.lv.sub h2, rfl⟩, k B H _ (.refl B) R rfl⟩
  · split at e
    · rename_i q
      obtain ⟨v, rfl, h⟩ := paired1 va
      cases e
      cases (show v = _ from h)
      exact ⟨_, _, rfl, ⟨lim_ok q, rfl⟩, k B H _ (.refl B) R rfl⟩
    · cases e
  · cases e⟩
@[simp] def fAbs : List D → Option DR
  | [.int i] => dInt (if i < 0 then -i else i)
  | _ => none
theorem ok_abs : OkC X c (.builtin "abs") fAbs := ⟨_, call_abs, fun B σ H st fs vs ds d Q R va e k => by
  unfold fAbs at e
  split at e
  · obtain ⟨v, rfl, h⟩ := paired1 va
    cases e
    cases (show v = _ from h)
    exact ⟨_, rfl, k B H _ (.refl B) R rfl⟩
  · cases e⟩
@[simp] def fInt : List D → Option DR
  | [.int i] => dInt i
  | [.bl b] => dInt (if b then 1 else 0)
  | _ => none
theorem ok_int : OkC X c (.type "int") fInt := ⟨_, call_int1, fun B σ H st fs vs ds d Q R va e k => by
  unfold fInt at e
  split at e
  · obtain ⟨v, rfl, h⟩ := paired1 va
    cases e
    cases (show v = _ from h)
    exact .inl ⟨_, rfl, k B H _ (.refl B) R rfl⟩
  · obtain ⟨v, rfl, h⟩ := paired1 va
    cases e
    cases (show v = _ from h)
    exact .inr ⟨_, rfl, k B H _ (.refl B) R rfl⟩
  · cases e⟩
@[simp] def fMax2 : List D → Option DR
  | [.int i, .int j] => dInt (if j > i then j else i)
  | _ => none
@[simp] def fMin2 : List D → Option DR
  | [.int i, .int j] => dInt (if j < i then j else i)
  | _ => none
theorem ok_max2 [g : Gd X c] : OkC X c (.builtin "max") fMax2 := ⟨_, call_max2 g.calm, fun B σ H st fs vs ds d Q R va e k => by
  unfold fMax2 at e
  split at e
  · obtain ⟨v, w, rfl, h, h'⟩ := paired2 va
    cases e
    cases (show v = _ from h)
    cases (show w = _ from h')
    exact ⟨_, _, rfl, k B H _ (.refl B) R rfl⟩
  · cases e⟩
theorem ok_min2 [g : Gd X c] : OkC X c (.builtin "min") fMin2 := ⟨_, call_min2 g.calm, fun B σ H st fs vs ds d Q R va e k => by
  unfold fMin2 at e
  split at e
  · obtain ⟨v, w, rfl, h, h'⟩ := paired2 va
    cases e
    cases (show v = _ from h)
    cases (show w = _ from h')
    exact ⟨_, _, rfl, k B H _ (.refl B) R rfl⟩
  · cases e⟩
/-- all ints; all bools -/
def intsOf : List D → Option (List Int)
  | [] => some []
  | .int i :: ds => (intsOf ds).map (i :: ·)
  | _ => none
def blsOf : List D → Option (List Bool)
  | [] => some []
  | .bl i :: ds => (blsOf ds).map (i :: ·)
  | _ => none
theorem intsOf_ok : ∀ {ds : List D} {ns : List Int}, intsOf ds = some ns → ds = ns.map D.int
  | [], ns, h => by cases h; rfl
  | .int i :: ds, ns, h => by
    unfold intsOf at h
    cases q : intsOf ds with
    | none => rw [q] at h; cases h
    | some ms =>
      rw [q] at h
      cases h
      rw [List.map_cons, intsOf_ok q]
  | .non :: ds, ns, h => by cases h
  | .bl _ :: ds, ns, h => by cases h
  | .str _ :: ds, ns, h => by cases h
  | .tup _ :: ds, ns, h => by cases h
  | .lst _ :: ds, ns, h => by cases h
  | .dct _ _ :: ds, ns, h => by cases h
  | .dctT _ _ :: ds, ns, h => by cases h
  | .ins _ _ _ :: ds, ns, h => by cases h
  | .live _ :: ds, ns, h => by cases h
  | .scr _ :: ds, ns, h => by cases h
@[simp] theorem intsOf_map (ns : List Int) : intsOf (ns.map D.int) = some ns := by
  induction ns with
  | nil => rfl
  | cons n ns ih => rw [List.map_cons, intsOf, ih]; rfl
theorem blsOf_ok : ∀ {ds : List D} {ns : List Bool}, blsOf ds = some ns → ds = ns.map D.bl
  | [], ns, h => by cases h; rfl
  | .bl i :: ds, ns, h => by
    unfold blsOf at h
    cases q : blsOf ds with
    | none => rw [q] at h; cases h
    | some ms =>
      rw [q] at h
      cases h
      rw [List.map_cons, blsOf_ok q]
  | .non :: ds, ns, h => by cases h
  | .int _ :: ds, ns, h => by cases h
  | .str _ :: ds, ns, h => by cases h
  | .tup _ :: ds, ns, h => by cases h
  | .lst _ :: ds, ns, h => by cases h
  | .dct _ _ :: ds, ns, h => by cases h
  | .dctT _ _ :: ds, ns, h => by cases h
  | .ins _ _ _ :: ds, ns, h => by cases h
  | .live _ :: ds, ns, h => by cases h
  | .scr _ :: ds, ns, h => by cases h
@[simp] theorem blsOf_map (ns : List Bool) : blsOf (ns.map D.bl) = some ns := by
  induction ns with
  | nil => rfl
  | cons n ns ih => rw [List.map_cons, blsOf, ih]; rfl
theorem IsDs.bls {n : Kn} {B : Bs} : ∀ {ns : List Bool} {vs : List V}, IsDs n B (ns.map D.bl) vs → vs = ns.map V.bl
  | [], vs, h => h
  | i :: ns, vs, h => by
    obtain ⟨w, r, rfl, h2, h3⟩ := h
    rw [IsDs.bls h3, (show w = .bl i from h2)]
    rfl
@[simp] def fSum : List D → Option DR
  | [.lst ds] => (intsOf ds).bind fun ns => dInt ns.sum
  | _ => none
theorem ok_sum [g : Gd X c] : OkC X c (.builtin "sum") fSum := ⟨_, cr_sum g.calm, fun B σ H st fs vs ds d Q R va e k => by
  have hK : c.n.K = X.K := by rw [g.n]
  unfold fSum at e
  split at e
  · rename_i ds
    obtain ⟨v, rfl, p, ws, rfl, h2, h3⟩ := paired1 va
    cases q : intsOf ds with
    | none => rw [q] at e; cases e
    | some ns =>
      rw [q] at e
      have e' : some (DR.d (.int ns.sum)) = some d := e
      cases e'
      rw [intsOf_ok q] at h3
      rw [h3.ints] at h2
      exact ⟨p, ns, rfl, .inl h2, k B H _ (.refl B) R rfl⟩
  · cases e⟩
@[simp] def fAll : List D → Option DR
  | [.lst ds] => (blsOf ds).bind fun ns => dBl (ns.all id)
  | _ => none
theorem ok_all [g : Gd X c] : OkC X c (.builtin "all") fAll := ⟨_, cr_all g.calm, fun B σ H st fs vs ds d Q R va e k => by
  have hK : c.n.K = X.K := by rw [g.n]
  unfold fAll at e
  split at e
  · rename_i ds
    obtain ⟨v, rfl, p, ws, rfl, h2, h3⟩ := paired1 va
    cases q : blsOf ds with
    | none => rw [q] at e; cases e
    | some ns =>
      rw [q] at e
      have e' : some (DR.d (.bl (ns.all id))) = some d := e
      cases e'
      rw [blsOf_ok q] at h3
      rw [h3.bls] at h2
      exact ⟨p, ns, rfl, .inl h2, k B H _ (.refl B) R rfl⟩
  · cases e⟩
@[simp] def fAny : List D → Option DR
  | [.lst ds] => (blsOf ds).bind fun ns => dBl (ns.any id)
  | _ => none
theorem ok_any [g : Gd X c] : OkC X c (.builtin "any") fAny := ⟨_, cr_any g.calm, fun B σ H st fs vs ds d Q R va e k => by
  have hK : c.n.K = X.K := by rw [g.n]
  unfold fAny at e
  split at e
  · rename_i ds
    obtain ⟨v, rfl, p, ws, rfl, h2, h3⟩ := paired1 va
    cases q : blsOf ds with
    | none => rw [q] at e; cases e
    | some ns =>
      rw [q] at e
      have e' : some (DR.d (.bl (ns.any id))) = some d := e
      cases e'
      rw [blsOf_ok q] at h3
      rw [h3.bls] at h2
      exact ⟨p, ns, rfl, .inl h2, k B H _ (.refl B) R rfl⟩
  · cases e⟩
@[simp] def fTuple : List D → Option DR
  | [.lst ds] => some (.d (.tup ds))
  | [.tup ds] => some (.d (.tup ds))
  | _ => none
theorem ok_tuple [g : Gd X c] : OkC X c (.type "tuple") fTuple := ⟨_, call_tuple_of, fun B σ H st fs vs ds d Q R va e k => by
  have hK : c.n.K = X.K := by rw [g.n]
  unfold fTuple at e
  split at e
  · rename_i ds
    cases e
    obtain ⟨v, rfl, p, ws, rfl, h2, h3⟩ := paired1 va
    refine ⟨p, ws, rfl, .inl ⟨.inl h2, fun l hl => ?_⟩⟩
    obtain ⟨le, r2⟩ := R.newD (o := .tup ws) hl
    exact k _ _ _ le r2 ⟨l, ws, rfl, .inl (.inl upd_same), h3.mono le _ _⟩
  · rename_i ds
    cases e
    obtain ⟨v, rfl, p, ws, rfl, h2, h3⟩ := paired1 va
    exact ⟨p, ws, rfl, .inr ⟨hK ▸ sqT_mono R.lv.sub h2, k B H _ (.refl B) R ⟨p, ws, rfl, h2, h3⟩⟩⟩
  · cases e⟩
@[simp] def fList : List D → Option DR
  | [.lst ds] => some (.f (.l ds))
  | [.tup ds] => some (.f (.l ds))
  | _ => none
theorem ok_list [g : Gd X c] : OkC X c (.type "list") fList := ⟨_, call_list_of, fun B σ H st fs vs ds d Q R va e k => by
  have hK : c.n.K = X.K := by rw [g.n]
  unfold fList at e
  split at e
  · rename_i ds
    cases e
    obtain ⟨v, rfl, p, ws, rfl, h2, h3⟩ := paired1 va
    exact ⟨p, ws, rfl, .inl (.inl h2), fun l hl => k B _ l (.refl B) (R.newF (f := .l ds) hl ⟨ws, upd_same, h3⟩)⟩
  · rename_i ds
    cases e
    obtain ⟨v, rfl, p, ws, rfl, h2, h3⟩ := paired1 va
    exact ⟨p, ws, rfl, .inr (hK ▸ sqT_mono R.lv.sub h2), fun l hl => k B _ l (.refl B) (R.newF (f := .l ds) hl ⟨ws, upd_same, h3⟩)⟩
  · cases e⟩
/-- ints in order -/
def insI (x : Int) : List Int → List Int
  | [] => [x]
  | y :: r => if x ≤ y then x :: y :: r else y :: insI x r
def sortI : List Int → List Int
  | [] => []
  | x :: r => insI x (sortI r)
theorem insI_perm (x : Int) : ∀ l : List Int, (insI x l).Perm (x :: l)
  | [] => .refl _
  | y :: r => by
    unfold insI
    split
    · exact .refl _
    · exact ((insI_perm x r).cons y).trans (.swap x y r)
theorem insI_sorted {x : Int} : ∀ {l : List Int}, l.Pairwise (· ≤ ·) → (insI x l).Pairwise (· ≤ ·)
  | [], _ => by simp [insI]
  | y :: r, h => by
    unfold insI
    have h' := List.pairwise_cons.mp h
    split
    · rename_i q
      refine List.pairwise_cons.mpr ⟨fun z hz => ?_, h⟩
      rcases List.mem_cons.mp hz with rfl | hz
      · exact q
      · exact Int.le_trans q (h'.1 z hz)
    · rename_i q
      refine List.pairwise_cons.mpr ⟨fun z hz => ?_, insI_sorted h'.2⟩
      rcases List.mem_cons.mp ((insI_perm x r).mem_iff.mp hz) with rfl | hz
      · omega
      · exact h'.1 z hz
theorem sortI_perm : ∀ l : List Int, (sortI l).Perm l
  | [] => .refl _
  | x :: r => (insI_perm x (sortI r)).trans ((sortI_perm r).cons x)
theorem sortI_sorted : ∀ l : List Int, (sortI l).Pairwise (· ≤ ·)
  | [] => .nil
  | x :: r => insI_sorted (sortI_sorted r)
theorem sortI_unique {l m : List Int} (p : m.Perm l) (s : m.Pairwise (· ≤ ·)) : m = sortI l := PySem.W.ksm_same (p.trans (sortI_perm l).symm) s (sortI_sorted l)
@[simp] def fSorted : List D → Option DR
  | [.lst ds] => (intsOf ds).bind fun ns => some (.f (.l ((sortI ns).map D.int)))
  | _ => none
theorem ok_sorted [g : Gd X c] : OkC X c (.builtin "sorted") fSorted := ⟨_, cr_sortedI, fun B σ H st fs vs ds d Q R va e k => by
  have hK : c.n.K = X.K := by rw [g.n]
  unfold fSorted at e
  split at e
  · rename_i ds
    obtain ⟨v, rfl, p, ws, rfl, h2, h3⟩ := paired1 va
    cases q : intsOf ds with
    | none => rw [q] at e; cases e
    | some ns =>
      rw [q] at e
      have e' : some (DR.f (.l ((sortI ns).map D.int))) = some d := e
      cases e'
      rw [intsOf_ok q] at h3
      rw [h3.ints] at h2
      refine ⟨p, ns, rfl, .inl h2, fun ns' l hp hs hl => ?_⟩
      cases sortI_unique hp hs
      exact k B _ l (.refl B) (R.newF (f := .l _) hl ⟨_, upd_same, IsDs.of_ints⟩)
  · cases e⟩
/-! ### isinstance(x, T), T a built-in class -/
inductive Ty where
  | non | bl | int | str | tup | lst | dct
  deriving DecidableEq
def Ty.name : Ty → String
  | .non => "NoneType" | .bl => "bool" | .int => "int" | .str => "str" | .tup => "tuple" | .lst => "list" | .dct => "dict"
@[simp] def tyN : D → Option Ty
  | .non => some .non
  | .bl _ => some .bl
  | .int _ => some .int
  | .str _ => some .str
  | .tup _ => some .tup
  | .lst _ => some .lst
  | .dct _ _ => some .dct
  | .dctT _ _ => some .dct
  | _ => none
@[simp] def tyIs : Ty → Ty → Bool
  | .bl, .bl => true | .int, .int => true | .str, .str => true | .tup, .tup => true | .lst, .lst => true | .dct, .dct => true
  | .bl, .int => true
  | _, _ => false
@[simp] def isT (T : Ty) (d : D) : Option D := match tyN d with
  | some t => some (.bl (tyIs t T))
  | none => none
theorem kit_all (t T : Ty) (h : T ≠ .non) : kitB t.name T.name = some (tyIs t T) := by
  cases T <;> first
    | exact absurd rfl h
    | (cases t <;> decide +kernel)
theorem rd_ty {n : Kn} {H : Hp} {a : Addr} {kvs : List (Key × V)} (h : Rd H a (.dK kvs)) : TyX n.K H (.ref a) (.type "dict") := by
  rcases h with h | ⟨o, h⟩
  · exact .base (.dK h)
  · exact .fDict h
theorem ty_ok {n : Kn} {B : Bs} {H : Hp} (e : ∀ a o, B.H0 a = some o → H a = some o) {d : D} {v : V} {t : Ty} (h : VD n B H d v) (ht : tyN d = some t) (hd : ∀ ks ds, d ≠ .dctT ks ds) : TyX n.K H v (.type t.name) := by
  cases d with
  | non => cases ht; cases (show v = .non from h); exact .base .non
  | bl b => cases ht; cases (show v = .bl b from h); exact .base (.bl b)
  | int b => cases ht; cases (show v = .int b from h); exact .base (.int b)
  | str b => cases ht; cases (show v = .str b from h); exact .base (.str b)
  | tup ds =>
    cases ht
    obtain ⟨a, vs, rfl, h2, _⟩ := h
    rcases sqT_mono e h2 with (h2 | ⟨o, h2⟩) | ⟨o, _, _, h2, h3, _⟩
    · exact .base (.tup h2)
    · exact .fTuple h2
    · exact .kTuple h2 h3
  | lst ds =>
    cases ht
    obtain ⟨a, vs, rfl, h2, _⟩ := h
    rcases h2 with h2 | ⟨o, h2⟩
    · exact .base (.lst h2)
    · exact .base (.frz h2)
  | dct ks ds =>
    cases ht
    obtain ⟨a, vs, rfl, h2, _⟩ := h
    exact rd_ty h2
  | dctT ks ds => exact (hd ks ds rfl).elim
  | _ => cases ht
@[simp] def isTd (T : Ty) : D → Option D
  | .dctT _ _ => none
  | d => isT T d
@[simp ↓] def mIsi (T : Ty) (m : Mo E1) (st : MS) : Rs E1 := (m st).then fun e s => opt (((val e s).bind (isTd T)).map E1.d) s
theorem ee_isi [g : Gd X c] {x T : Str} {m : Mo E1} (Ts : Ty) {p pT : Pos} (hTs : Ts ≠ .non) (hg : Gl X x) (hm : X.mg x = none) (hv : bootBuiltins x = some (.builtin "isinstance")) (ha : EE X c W a m) (hgT : Gl X T) (hmT : X.mg T = none) (hvT : bootBuiltins T = some (.type Ts.name)) (hnT : T ≠ "__name__" := by decide) (hdT : (T == ("__debug__" : Str)) = false := by decide) (hn : x ≠ "__name__" := by decide) (hdb : (x == ("__debug__" : Str)) = false := by decide)
    (h1 : starEach [a, .Name T pT] X.env = (false, eval a X.env) :: starEach [.Name T pT] X.env := by rfl) (h2 : starEach [.Name T pT] X.env = (false, eval (.Name T pT) X.env) :: starEach [] X.env := by rfl) (hpl : (backTo pos (starEach [.Name T pT] X.env)).any (·.1) = false := by rfl) :
    EE X c W (.Call (.Name x p) [a, .Name T pT] [] pos) (mIsi Ts m) :=
  ⟨peImp (pe_callB call_isi hg hm hv (pa_cons ha.pe (pa_cons (pe_bltn (v := .ty Ts.name) hgT hmT hvT rfl hnT hdT) pa_nil h2) h1) hn hdb h1 hpl) fun σ H Q ⟨B, st, fs, r, p⟩ => ⟨B, st, fs, r, (Post.bind p).up (.refl B) fun x s k B1 H1 v l1 r1 i1 => by
    have hK : c.n.K = X.K := by rw [g.n]
    cases q : val x s with
    | none => rw [q] at k; exact k.elim
    | some d =>
      rw [q] at k
      have nd : ∀ ks ds, d ≠ .dctT ks ds := fun ks ds e => by subst e; exact k.elim
      have k' : Post c W σ B (opt ((isT Ts d).map E1.d) s) (KE c σ B fs Q) := by
        cases d with
        | dctT ks ds => exact (nd ks ds rfl).elim
        | _ => exact k
      unfold isT at k'
      cases q2 : tyN d with
      | none => rw [q2] at k'; exact k'.elim
      | some t =>
        rw [q2] at k'
        refine ⟨v, .ty Ts.name, .type t.name, .type Ts.name, _, rfl, .ty Ts.name, hK ▸ ty_ok r1.lv.sub (val_ok r1 i1 q) q2 nd, kit_ty (kit_all t Ts hTs), ?_⟩
        exact k' B1 H1 _ l1 r1 rfl⟩⟩
end
end Y
namespace Y
open PySem PySem.Spec PyProof.Rows L2
section
variable {X : Cx} {c : Cn} {W : WX} {tg it e a b : Expr} {es : List Expr} {pos : Pos} {vs : List Nat}
/-! ### two places, a fresh thing perhaps -/
def OkG (X : Cx) (c : Cn) (f : Value → Value → Sem Value) (op : D → D → Option DR) : Prop :=
  ∃ r : R2, OpR X f r ∧ ∀ (B : Bs) (σ : Sg) (H : Hp) (st : MS) (fs : Fs) (x y : V) (a b : D) (d : DR) (Q : VK), Rel c B σ H st fs → VD c.n B H a x → VD c.n B H b y → op a b = some d → KX c σ B fs Q d.x st → r x y H Q
@[simp ↓] def mOpG (op : D → D → Option DR) (ma mb : Mo E1) (st : MS) : Rs EX := (ma st).then fun a s1 => (mb s1).then fun b s2 => opt (match val a s2, val b s2 with
  | some x, some y => (op x y).map DR.x
  | _, _ => none) s2
theorem ge_op2 {o : Operator} {op : D → D → Option DR} {ma mb : Mo E1} (ho : OkG X c (binaryOp o) op) (ha : EE X c W a ma) (hb : EE X c W b mb) : GE X c W (.BinOp a o b pos) (mOpG op ma mb) := by
  obtain ⟨r, h1, h2⟩ := ho
  refine ⟨peImp (pe_op h1 ha.pe hb.pe) fun σ H Q h => ?_⟩
  obtain ⟨B, st, fs, R, p⟩ := h
  refine ⟨B, st, fs, R, (Post.bind p).up (.refl B) fun a s1 k B1 H1 v1 l1 R1 i1 => ?_⟩
  refine ⟨B1, s1, fs, R1, (Post.bind k).up l1 fun b s2 k2 B2 H2 v2 l2 R2 i2 => ?_⟩
  split at k2
  · rename_i x y ex ey
    cases q : op x y with
    | some d =>
      rw [q] at k2
      exact h2 B2 σ H2 s2 fs v1 v2 x y d Q R2 (val_ok R2 (i1.mono l2) ex) (val_ok R2 i2 ey) q (KX.up k2 (l1.trans l2))
    | none =>
      rw [q] at k2
      exact k2.elim
  · exact k2.elim
@[simp] def fAdd : D → D → Option DR
  | .int i, .int j => some (.d (.int (i + j)))
  | .str x, .str y => if decide (x.length + y.length ≤ lim) = true then some (.d (.str (x ++ y))) else none
  | .tup xs, .tup ys => if decide (xs.length + ys.length ≤ lim) = true then some (.d (.tup (xs ++ ys))) else none
  | .lst xs, .lst ys => if decide (xs.length + ys.length ≤ lim) = true then some (.f (.l (xs ++ ys))) else none
  | _, _ => none
theorem Inv.lstR {pins : List (Addr × Obj)} {σ : Sg} {H : Hp} {s : Shared} {a : Addr} {xs : List V} (I : L2.Inv X pins σ H s) (h : Rd H a (.lst xs)) : ∃ (its : List Value) (n : Nat), Vals xs its ∧ s.heap.get? a = some { cls := .type "list", data := .seq its.toArray n } ∧ xs.length ≤ sizeLine := by
  obtain ⟨z, its, n, r, e⟩ := h.ok I.hok
  exact ⟨its, n, r, e, z⟩
theorem op_catL : OpR X (binaryOp .Add) (fun x y H Q => ∃ l b xs zs, x = .ref l ∧ y = .ref b ∧ Rd H l (.lst xs) ∧ Rd H b (.lst zs) ∧ xs.length + zs.length ≤ sizeLine ∧ ∀ p, H p = none → Q (.ref p) (upd H p (.lst (xs ++ zs)))) := by
  intro pins s σ H x y v u Q I rx ry h
  obtain ⟨l, b, xs, zs, rfl, rfl, hH, hB, hz, q⟩ := h
  cases rx
  cases ry
  obtain ⟨its, n, r, e, _⟩ := Inv.lstR I hH
  obtain ⟨its2, n2, r2, e2, _⟩ := Inv.lstR I hB
  have hl := r.length
  have hl2 := r2.length
  refine PySem.P.add_list e e2 ?_ (by rw [List.size_toArray, List.size_toArray]; omega)
  have ea : its.toArray ++ its2.toArray = (its ++ its2).toArray := by simp
  rw [ea]
  exact ⟨.ref _, _, I.lnew (t' := s.toks) (r.append r2) (by rw [List.length_append]; omega), rfl, q _ I.fresh⟩
theorem ok_add [g : Gd X c] : OkG X c (binaryOp .Add) fAdd := ⟨_, ((op_add.or op_add_str).or op_catA).or op_catL, fun B σ H st fs x y a b d Q R va vb e k => by
  have hK : c.n.K = X.K := by rw [g.n]
  unfold fAdd at e
  split at e
  · cases e
    exact .inl (.inl (.inl ⟨_, _, va, vb, k B H _ (.refl B) R rfl⟩))
  · split at e
    · rename_i q
      cases e
      exact .inl (.inl (.inr ⟨_, _, va, vb, lim_ok q, k B H _ (.refl B) R rfl⟩))
    · cases e
  · split at e
    · rename_i xs ys q
      cases e
      obtain ⟨p, vs, rfl, h2, h3⟩ := va
      obtain ⟨p', vs', rfl, h2', h3'⟩ := vb
      refine .inl (.inr ⟨p, p', vs, vs', rfl, rfl, hK ▸ sqT_mono R.lv.sub h2, hK ▸ sqT_mono R.lv.sub h2', by rw [h3.length, h3'.length]; exact lim_ok q, fun e0 => ?_, fun _ e0 => ?_, fun _ _ q hq => ?_⟩)
      · subst e0
        have : xs = [] := List.eq_nil_of_length_eq_zero (by rw [← h3.length]; rfl)
        subst this
        exact k B H _ (.refl B) R ⟨p', vs', rfl, h2', h3'⟩
      · subst e0
        have : ys = [] := List.eq_nil_of_length_eq_zero (by rw [← h3'.length]; rfl)
        subst this
        refine k B H _ (.refl B) R ⟨p, vs, rfl, h2, ?_⟩
        rw [List.append_nil]
        exact h3
      · obtain ⟨le, r2⟩ := R.newD (o := .tup (vs ++ vs')) hq
        exact k _ _ _ le r2 ⟨q, _, rfl, .inl (.inl upd_same), (h3.append h3').mono le _ _⟩
    · cases e
  · split at e
    · rename_i xs ys q
      cases e
      obtain ⟨p, vs, rfl, h2, h3⟩ := va
      obtain ⟨p', vs', rfl, h2', h3'⟩ := vb
      exact .inr ⟨p, p', vs, vs', rfl, rfl, h2, h2', by rw [h3.length, h3'.length]; exact lim_ok q, fun l hl => k B _ l (.refl B) (R.newF (f := .l (xs ++ ys)) hl ⟨_, upd_same, h3.append h3'⟩)⟩
    · cases e
  · cases e⟩
/-! ### a module's constant -/
theorem ee_glob {x : Str} {v : V} {u : Value} {d : D} (hg : Gl X x) (hm : X.mg x = some u) (r : RelV v u) (hd : ∀ B, IsD c.n B d v) (hdb : (x == ("__debug__" : Str)) = false := by decide) : EE X c W (.Name x pos) (mC d) :=
  ⟨peImp (pe_glob hg hm r hdb) fun σ H Q ⟨B, st, fs, r, p⟩ => p B H v (.refl B) r (hd B)⟩
/-! ### a < b < c as a test -/
theorem te_chain {cc : Expr} {o o' : CmpOp} {op op' : D → D → Option D} {ma mb mc : Mo E1} (ho : Ok2 X c (compareOp o) op) (ho' : Ok2 X c (compareOp o') op') (ha : EE X c W a ma) (hb : EE X c W b mb) (hc : EE X c W cc mc)
    (hm : lastMarks [o, o'] [b, cc] = false := by rfl) : TEs X c W (.Compare a [o, o'] [b, cc] pos) (mTest (mChain op op' ma mb mc)) := by
  obtain ⟨r, h1, h2⟩ := ho
  obtain ⟨r', h1', h2'⟩ := ho'
  refine ⟨ptImp (pt_chain h1 h1' ha.pe hb.pe hc.pe hm) fun σ H Q h => ?_⟩
  obtain ⟨B, st, fs, R, p⟩ := test_go (t := fun _ _ _ => True) h
  refine ⟨B, st, fs, R, (Post.bind p).up (.refl B) fun a s1 k B1 H1 v1 l1 R1 i1 => ?_⟩
  refine ⟨B1, s1, fs, R1, (Post.bind k).up l1 fun b s2 k2 B2 H2 v2 l2 R2 i2 => ?_⟩
  split at k2
  · rename_i x y ex ey
    split at k2
    · rename_i q
      refine h2 B2 σ H2 s2 fs v1 v2 x y _ _ R2 (val_ok R2 (i1.mono l2) ex) (val_ok R2 i2 ey) q fun B3 H3 v3 l3 R3 i3 => ⟨true, i3, ?_⟩
      rw [if_pos rfl]
      refine ⟨B3, s2, fs, R3, (Post.bind k2).up ((l1.trans l2).trans l3) fun z s3 k4 B4 H4 v4 l4 R4 i4 => ?_⟩
      split at k4
      · rename_i y' w ey' ew
        cases q2 : op' y' w with
        | some d =>
          rw [q2] at k4
          exact h2' B4 σ H4 s3 fs v2 v4 y' w d _ R4 (val_ok R4 ((i2.mono l3).mono l4) ey') (val_ok R4 i4 ew) q2 fun B' H' v l r' i => k4 B' H' v ((((l1.trans l2).trans l3).trans l4).trans l) r' i
        | none =>
          rw [q2] at k4
          exact k4.elim
      · exact k4.elim
    · rename_i q
      refine h2 B2 σ H2 s2 fs v1 v2 x y _ _ R2 (val_ok R2 (i1.mono l2) ex) (val_ok R2 i2 ey) q fun B3 H3 v3 l3 R3 i3 => ⟨false, i3, ?_⟩
      rw [if_neg Bool.false_ne_true]
      exact k2 B3 H3 _ ((l1.trans l2).trans l3) R3 rfl
    · exact k2.elim
  · exact k2.elim
/-! ### range with a step -/
def stepN (i j c : Int) : Option Nat := if decide (c ≠ 0) && decide (c.natAbs < 1073741824) && Builtin.Range.small i j c then (if 0 ≤ Builtin.Range.rangeSize i j c then some (Builtin.Range.rangeSize i j c).toNat else none) else none
def rgC (lo c : Int) (n : Nat) : List D := (List.range n).map fun (k : Nat) => .int (lo + (k : Int) * c)
@[simp ↓] def rg3 : List D → MS → Rs (List D)
  | [.int i, .int j, .int c], s => opt ((stepN i j c).map (rgC i c)) s
  | _, _ => .bad
@[simp ↓] def mRg3 (ms : Mo (List D)) (st : MS) : Rs (List D) := (ms st).then rg3
theorem walk_rangeC {B : Bs} {lo cc : Int} {n : Nat} : WalkD c B (rgC lo cc n) (Itc lo cc n) := fun j B2 σ2 H2 s2 fs2 l r => by
  refine ⟨fun d hd => ?_, fun hj => by
    have h : n ≤ j := by simpa [rgC] using hj
    exact h⟩
  unfold rgC at hd
  rw [List.getElem?_map] at hd
  by_cases hi : j < n
  · rw [List.getElem?_range hi] at hd
    cases hd
    exact ⟨hi, fun x H3 ⟨e, y⟩ => ⟨B2, .refl _, by rw [e]; exact r, y⟩⟩
  · rw [List.getElem?_eq_none (by simpa using hi)] at hd
    cases hd
theorem ie_range3 {d : Expr} {ms : Mo (List D)} {p : Pos} (hg : Gl X "range") (hm : X.mg "range" = none) (ha : AE X c W [a, b, d] ms)
    (hs : starEach [a, b, d] X.env = (false, eval a X.env) :: starEach [b, d] X.env := by rfl) (hpl : (backTo pos (starEach [b, d] X.env)).any (·.1) = false := by rfl) : IE X c W tg (.Call (.Name "range" p) [a, b, d] [] pos) (mRg3 ms) :=
  ⟨piImp (pi_range3 hg hm ha.pa hs hpl) fun σ H R ⟨B, st, fs, r, p⟩ => ⟨B, st, fs, r, (Post.bind p).up (.refl B) fun ds s k B1 H1 vs l1 r1 i1 => by
    unfold rg3 at k
    split at k
    · rename_i i j cc
      unfold stepN at k
      split at k
      · rename_i q
        rw [Bool.and_eq_true, Bool.and_eq_true] at q
        split at k
        · rename_i hn
          obtain ⟨v, w, rfl, h1, v2, w2, rfl, h3, v3, w3, rfl, h5, h6⟩ := i1
          cases (show w3 = [] from h6)
          refine ⟨i, j, cc, _, by rw [(show v = .int i from h1), (show v2 = .int j from h3), (show v3 = .int cc from h5)], ⟨of_decide_eq_true q.1.1, of_decide_eq_true q.1.2, q.2, ?_⟩, k B1 H1 _ l1 r1 walk_rangeC⟩
          omega
        · exact k.elim
      · exact k.elim
    · exact k.elim⟩⟩
/-! ### a, b = a list -/
@[simp] def gL (n : Nat) (gs : List D → MS → Option MS) : Gt
  | .lst xs, st => if xs.length = n then gs xs st else none
  | _, _ => none
theorem tg_lst [gd : Gd X c] {k n : Nat} {gs : List D → MS → Option MS} (h : TGEs X c vs es gs) (hn : (assignEach es X.env).length = n := by rfl) (hst : (assignEach es X.env).findIdx? (·.1) = none := by rfl) : TGE X c vs (.Tuple es k pos) (gL n gs) :=
  ⟨pgImp (pg_unl gd.calm h.pgs hn hst) fun v σ H Q ⟨B, st, x, fs, r, ix, k⟩ => by
    cases x with
    | lst xs =>
      obtain ⟨a, ws, rfl, h2, h3⟩ := ix
      simp only [gL] at k
      by_cases hl : xs.length = n
      · rw [if_pos hl] at k
        exact ⟨a, ws, rfl, .inl (rd_mono r.lv.sub h2), by rw [h3.length]; exact hl, B, st, xs, fs, r, h3, k⟩
      · rw [if_neg hl] at k
        exact k.elim
    | _ => exact k.elim⟩
/-! ### repr, str -/
@[simp] def fRepr : List D → Option DR
  | [.bl b] => some (.d (.str (if b then "True" else "False")))
  | [.int i] => if decide (i.natAbs.log2 < 1920) = true then some (.d (.str (toString i))) else none
  | _ => none
theorem call_repr_bl : CallR X (.builtin "repr") (fun xs H Q => ∃ b, xs = [.bl b] ∧ Q (.str (if b then "True" else "False")) H) := by
  intro pins s σ H xs us Q I r h
  obtain ⟨b, rfl, q⟩ := h
  obtain ⟨u, rfl, rx⟩ := vals1 r
  cases (show u = Value.bool b from rx)
  refine PySem.P.repr_of_bool ?_
  exact ⟨.str (if b then "True" else "False"), H, I.tok _, ⟨s.toks, by cases b <;> rfl⟩, q⟩
theorem ok_repr : OkC X c (.builtin "repr") fRepr := ⟨_, call_repr_bl.or SkE.call_repr_int, fun B σ H st fs vs ds d Q R va e k => by
  unfold fRepr at e
  split at e
  · obtain ⟨v, rfl, h⟩ := paired1 va
    cases e
    cases (show v = _ from h)
    exact .inl ⟨_, rfl, k B H _ (.refl B) R rfl⟩
  · split at e
    · rename_i q
      obtain ⟨v, rfl, h⟩ := paired1 va
      cases e
      cases (show v = _ from h)
      exact .inr ⟨_, rfl, of_decide_eq_true q, k B H _ (.refl B) R rfl⟩
    · cases e
  · cases e⟩
/-- what is known of a def, in a comprehension's block -/
theorem fnkB {s : Shared} {H : Hp} {scope : Scope} {ce : Env} {fp : List Addr} {x : Str} {np : Nat} {F : Fm} (k : FnK X c x np F) : FnK (X.blk s H scope ce fp) c x np F := ⟨k.ex⟩
end
/-! ### a fresh thing that lives on: others write it -/
theorem Rel.mkLive {c : Cn} {B : Bs} {σ : Sg} {H : Hp} {st : MS} {a : Addr} {f : Fr} {fs : List (Addr × Fr)} (r : Rel c B σ H st ((a, f) :: fs)) :
    ∃ B', B.le B' ∧ Rel c B' σ H { st with g := st.g ++ [f] } fs ∧ IsD c.n B' (.live st.g.length) (.ref a) := by
  obtain ⟨fa, hf⟩ := r.fr (a, f) List.mem_cons_self
  have nd : a ∉ fs.map (·.1) ∧ (fs.map (·.1)).Nodup := List.nodup_cons.mp r.fnd
  let A' : Nat → Option Addr := fun k => if k = st.g.length then some a else B.A k
  have hlt : ∀ k b, B.A k = some b → k < st.g.length := r.lv.dom
  have le : B.le ⟨B.H0, A'⟩ := ⟨fun _ _ h => h, fun k b h => by
    have := hlt k b h
    show (if k = st.g.length then some a else B.A k) = some b
    rw [if_neg (by omega)]
    exact h⟩
  have hA : ∀ k b, A' k = some b → (k = st.g.length ∧ b = a) ∨ (k ≠ st.g.length ∧ B.A k = some b) := fun k b h => by
    have h' : (if k = st.g.length then some a else B.A k) = some b := h
    by_cases e : k = st.g.length
    · rw [if_pos e] at h'
      exact .inl ⟨e, (Option.some.inj h').symm⟩
    · rw [if_neg e] at h'
      exact .inr ⟨e, h'⟩
  have nfree : ∀ b, b ≠ a → Free c B H b → Free c ⟨B.H0, A'⟩ H b := fun b hb f1 => ⟨f1.h0, fun k h => by
    rcases hA k b h with ⟨_, z⟩ | ⟨_, z⟩
    · exact hb z
    · exact f1.nl k z, f1.hs, f1.th⟩
  refine ⟨⟨B.H0, A'⟩, le, ⟨⟨r.ext.le.trans le, r.ext.n0, fun k b h => ?_, r.ext.fr, r.ext.tr⟩, ⟨r.lv.sub, fun k l b h1 h2 => ?_, fun k b h => ?_, fun k f' h => ?_⟩, r.len, ?_, fun p hp => ?_, nd.2⟩, ⟨a, rfl, ?_⟩⟩
  · rcases hA k b h with ⟨_, z⟩ | ⟨_, z⟩
    · exact .inr (by rw [z]; exact fa.hs)
    · exact r.ext.nl k b z
  · rcases hA k b h1 with ⟨e1, z1⟩ | ⟨e1, z1⟩ <;> rcases hA l b h2 with ⟨e2, z2⟩ | ⟨e2, z2⟩
    · rw [e1, e2]
    · exact absurd (by rw [← z1]; exact z2) (fa.nl l)
    · exact absurd (by rw [← z2]; exact z1) (fa.nl k)
    · exact r.lv.inj k l b z1 z2
  · show k < (st.g ++ [f]).length
    rw [List.length_append, List.length_singleton]
    rcases hA k b h with ⟨e1, _⟩ | ⟨_, z1⟩
    · omega
    · have := hlt k b z1
      omega
  · have h' : (st.g ++ [f])[k]? = some f' := h
    rcases Nat.lt_trichotomy k st.g.length with q | q | q
    · rw [List.getElem?_append_left q] at h'
      obtain ⟨b, h1, h2, h3⟩ := r.lv.ob k f' h'
      exact ⟨b, le.lv k b h1, h2, h3.mono le fun _ h => h⟩
    · subst q
      rw [List.getElem?_append_right (Nat.le_refl _), Nat.sub_self] at h'
      have e : f = f' := by simpa using h'
      subst e
      exact ⟨a, by show (if st.g.length = st.g.length then some a else B.A st.g.length) = some a; rw [if_pos rfl], fa.h0, hf.mono le fun _ h => h⟩
    · rw [List.getElem?_eq_none (by rw [List.length_append, List.length_singleton]; omega)] at h'
      cases h'
  · obtain ⟨ad, τ, h1, h2, h3⟩ := r.sl
    refine ⟨ad, τ, h1, fun i b h => ?_, fun i sv h => ?_⟩
    · obtain ⟨f1, f2⟩ := h2 i b h
      have hb : b ≠ a := fun e => f2 _ List.mem_cons_self e.symm
      exact ⟨nfree b hb f1, fun p hp => f2 p (List.mem_cons_of_mem _ hp)⟩
    · obtain ⟨v, e, k⟩ := h3 i sv h
      refine ⟨v, e, ?_⟩
      cases sv with
      | d x => exact IsD.mono le x v k
      | m f' =>
        obtain ⟨b, e1, e2, e3⟩ := k
        exact ⟨b, e1, e2, e3.mono le fun _ h => h⟩
  · obtain ⟨g1, g2⟩ := r.fr p (List.mem_cons_of_mem _ hp)
    have hb : p.1 ≠ a := fun e => nd.1 (by rw [← e]; exact List.mem_map_of_mem hp)
    exact ⟨nfree _ hb g1, g2.mono le fun _ h => h⟩
  · show (if st.g.length = st.g.length then some a else B.A st.g.length) = some a
    rw [if_pos rfl]
@[simp ↓] def mLive (m : Mo EX) (st : MS) : Rs E1 := (m st).then fun x st => match x with
  | .e e => .ok e st
  | .f fr => .ok (.d (.live st.g.length)) { st with g := st.g ++ [fr] }
theorem ee_live {X : Cx} {c : Cn} {W : WX} {e : Expr} {m : Mo EX} (h : GE X c W e m) : EE X c W e (mLive m) := ⟨peImp h.pe fun σ H Q ⟨B, st, fs, r, p⟩ => ⟨B, st, fs, r, (Post.bind p).up (.refl B) fun x st' k => by
  cases x with
  | e e => exact fun B' H' v l r' i => k B' H' v l r' i
  | f fr =>
    intro B' H' a l r'
    obtain ⟨B2, le, r2, hd⟩ := r'.mkLive
    exact k B2 H' _ (l.trans le) r2 hd⟩⟩
end Y
namespace Y
open PySem PySem.Spec PyProof.Rows L2
theorem _root_.L2.Room.units5 {k : Nat} {A : Around} (r : L2.Room k A) : A.units + 65 < cLine := by have := r.un; omega
section
variable {X : Cx} {c : Cn} {W : WX} {tg it e a b : Expr} {es : List Expr} {pos : Pos} {vs : List Nat}
theorem v [g : Gd X c] (i : Nat) {x : Str} (hN : X.N[i]? = some x := by rfl) (hv : Vis X.env.scope x := by first | exact Or.inl rfl | exact Or.inr (Or.inl rfl) | exact Or.inr (Or.inr rfl)) (hd : (x == ("__debug__" : Str)) = false := by decide) (hcd : (x == ("__classdict__" : Str)) = false := by decide) : EE X c W (.Name x pos) (mVar i) := ee_var i hN hv hd hcd
theorem tn [g : Gd X c] (i : Nat) {x : Str} (hi : X.N[i]? = some x := by rfl) (hx : Loc X.env.scope x := by first | exact Or.inl rfl | exact Or.inr rfl) (hv : i ∈ vs := by decide) (hf : X.fn x = true ∨ X.env.scope.names.lookup x = some .local := by first | exact .inl rfl | exact .inr rfl) : TGE X c vs (.Name x pos) (gN i) := tg_name i hi hx hv hf
theorem st [g : Gd X c] (i : Nat) {x : Str} {pos' : Pos} {m : Mo EX} (h : GE X c W e m) (hi : X.N[i]? = some x := by rfl) (hx : Loc X.env.scope x := by first | exact Or.inl rfl | exact Or.inr rfl) (hs : swapsWith e (some (.Name x pos')) pos.line X.env = pure false := by rfl)
    (hf : X.fn x = true ∨ X.env.scope.names.lookup x = some .local := by first | exact .inl rfl | exact .inr rfl) : SE X c W (.Assign [.Name x pos'] e pos) (mSet i m) := se_set i hi hx h hs hf
end
/-- a def that keeps its mirror's promise, by name -/
structure Cal (P : Program) (w : World) (K : PySem.W.Frag) (mg : Str → Option Value) (base : Heap) (x : Str) (np : Nat) (F : Fm) (lev : Nat) : Prop where
  ex : ∃ (f : Addr) (fd : FuncData) (ps : List Str), ps.length = np ∧ FnOk P w K mg base (L2.CX P w) lev f fd ps (SpF ⟨K, mg⟩ np F) ∧ mg x = some (.ref f) ∧ PySem.W.keepIn K (.ref f) = true ∧ Binds K fd ps []
theorem Cal.k {X : Cx} {c : Cn} {x : Str} {np lev k : Nat} {F : Fm} (C : Cal X.prog X.w X.K X.mg X.base x np F lev) (hr : L2.Room k X.A) (h : lev ≤ k) : FnK X c x np F := by
  obtain ⟨f, fd, ps, h1, h2, h3, h4, h5⟩ := C.ex
  exact ⟨f, fd, ps, lev, h1, h2, hr.mono h, h3, h4, h5⟩
/-- where a def of the text stands behind the top -/
structure DefAt (K : PySem.W.Frag) (mg : Str → Option Value) (x : Str) (st : Stmt) (ps : List Str) : Prop where
  ex : ∃ (f : Addr) (fd : FuncData), Fun K x x st f fd ∧ mg x = some (.ref f) ∧ Binds K fd ps []
/-- a module's constant -/
structure KonstAt (K : PySem.W.Frag) (mg : Str → Option Value) (x : Str) (d : D) : Prop where
  ex : ∃ (v : V) (u : Value), mg x = some u ∧ L2.RelV v u ∧ ∀ B, IsD ⟨K, mg⟩ B d v
noncomputable def KonstAt.v {K : PySem.W.Frag} {mg : Str → Option Value} {x : Str} {d : D} (k : KonstAt K mg x d) : V := k.ex.choose
noncomputable def KonstAt.u {K : PySem.W.Frag} {mg : Str → Option Value} {x : Str} {d : D} (k : KonstAt K mg x d) : Value := k.ex.choose_spec.choose
theorem KonstAt.hm {K : PySem.W.Frag} {mg : Str → Option Value} {x : Str} {d : D} (k : KonstAt K mg x d) : mg x = some k.u := k.ex.choose_spec.choose_spec.1
theorem KonstAt.rv {K : PySem.W.Frag} {mg : Str → Option Value} {x : Str} {d : D} (k : KonstAt K mg x d) : L2.RelV k.v k.u := k.ex.choose_spec.choose_spec.2.1
theorem KonstAt.hd {K : PySem.W.Frag} {mg : Str → Option Value} {x : Str} {d : D} (k : KonstAt K mg x d) : ∀ B, IsD ⟨K, mg⟩ B d k.v := k.ex.choose_spec.choose_spec.2.2
instance tkD {P : Program} {w : World} {K : PySem.W.Frag} {mg : Str → Option Value} {base : Heap} {N : List Str} {qual : Str} {sc : Scope} {f : Addr} {cdv : Value} {A : Around} {outer : List Env} {s : Shared} {H : Hp} {E : XK} :
    Tk (cxD P w K mg base N qual sc f cdv A outer s H E) (WD E) := ⟨takes_of rfl rfl rfl rfl⟩
instance poD {P : Program} {w : World} {K : PySem.W.Frag} {mg : Str → Option Value} {base : Heap} {N : List Str} {qual : Str} {sc : Scope} {f : Addr} {cdv : Value} {A : Around} {outer : List Env} {s : Shared} {H : Hp} {E : XK} :
    PO (cxD P w K mg base N qual sc f cdv A outer s H E) := ⟨passes_of rfl⟩
theorem cal_of {P : Program} {w : World} {K : PySem.W.Frag} {mg : Str → Option Value} {base : Heap} {x : Str} {st : Stmt} {N ps : List Str} {k : Nat} {m : MoS}
    (Dx : DefAt K mg x st ps) (S : FnScope N ps (defScope st)) (hps : ps.length ≤ N.length)
    (body : ∀ (f : Addr) (fd : FuncData) (cdv : Value) (A : Around) (outer : List Env) (s : Shared) (H : Hp) (B : Bs) (E : XK), L2.Room k (A.deeper (envOfC x (defScope st) s.heap.objs.size f cdv)) → Fact' N.Nodup →
      SSE (cxD P w K mg base N x (defScope st) f cdv A outer s H E) ⟨⟨K, mg⟩, N.length, B, H⟩ (WD E) (defBody st) m) : Cal P w K mg base x ps.length (fnM N.length m) (k + 1) := by
  obtain ⟨f, fd, F, hm, hb⟩ := Dx.ex
  exact ⟨f, fd, ps, rfl, fn_ok F S hps fun cdv A outer s H B E hr => body f fd cdv A outer s H B E hr ⟨S.nd⟩, hm, F.kp, hb⟩
end Y
namespace Y
open PySem PySem.Spec PyProof.Rows L2
theorem def_at {K : PySem.W.Frag} {h : Heap} {mg : Str → Option Value} (X : K.In h) (G : h.Ns mainGlobals mg) {x : Str} (st : Stmt) (ps : List Str) {f : Addr} {oc kV dc pm cd ct : Value} {od an : Option Addr} {sl : Array (Option Value)}
    (a : PySem.W.nsIn K mainGlobals x = some (some (.ref f))) (l : K.lookup f = some ⟨oc, od, .func (PySem.W.fnOf x x (defArgs st) (defBody st) (defScope st) .none kV dc pm an cd ct), sl⟩)
    (c : PySem.W.codeIn K cd x = true) (k : PySem.W.keepIn K (.ref f) = true)
    (hb : ∀ (kV doc pm : Value) (an : Option Addr) (cdv ct : Value) (us : List Value), us.length = ps.length → bindArgs (PySem.W.fnOf x x (defArgs st) (defBody st) (defScope st) .none kV doc pm an cdv ct) ⟨us, []⟩ = pure (ps.zip us)) : DefAt K mg x st ps :=
  ⟨f, _, fun_mk l c k, PySem.W.mg_of X G a, (fun_mk l c k).binds hb⟩
theorem konst_int {K : PySem.W.Frag} {h : Heap} {mg : Str → Option Value} (X : K.In h) (G : h.Ns mainGlobals mg) {x : Str} {i : Int} {t : Tok} (a : PySem.W.nsIn K mainGlobals x = some (some (.int i t))) : KonstAt K mg x (.int i) :=
  ⟨.int i, .int i t, PySem.W.mg_of X G a, ⟨t, rfl⟩, fun _ => rfl⟩
theorem konst_str {K : PySem.W.Frag} {h : Heap} {mg : Str → Option Value} (X : K.In h) (G : h.Ns mainGlobals mg) {x : Str} {i : Str} {t : Tok} (a : PySem.W.nsIn K mainGlobals x = some (some (.str i t))) : KonstAt K mg x (.str i) :=
  ⟨.str i, .str i t, PySem.W.mg_of X G a, ⟨t, rfl⟩, fun _ => rfl⟩
/-- the law's own promise -/
def spLaw (K : PySem.W.Frag) : Sp := fun vs H Q _ => ∃ (a : Addr) (ns : List Int), vs = [.ref a] ∧ SqL K H a (ns.map V.int) ∧ ns.length ≤ 63 ∧ ∀ H', Q (.bl true) H'
theorem spLaw_of {K : PySem.W.Frag} {mg : Str → Option Value} {F : Fm} (hF : ∀ ns : List Int, ns.length ≤ 63 → ∃ g, F [.scr ns] [] = .ok (.d (.bl true)) g) {vs : List V} {H : Hp} {Q : VK} {E : XK} (h : spLaw K vs H Q E) : SpF ⟨K, mg⟩ 1 F vs H Q E := by
  obtain ⟨a, ns, rfl, hS, hl, q⟩ := h
  obtain ⟨g, e⟩ := hF ns hl
  refine ⟨rfl, ⟨H, fun _ => none⟩, [], [.scr ns], ⟨fun _ _ h => h, fun _ _ _ h => (nomatch h), fun _ _ h => (nomatch h), fun k f h => by cases h⟩, ⟨_, _, rfl, ⟨a, rfl, hS⟩, rfl⟩, ?_⟩
  rw [e]
  intro B' H' v x l hv
  cases (show v = .bl true from hv)
  exact q H'
theorem cx_no {P : Program} (w : World) (H : Hp) (s : Shared) (e : Value) (s' : Shared) (h : L2.CX P w [] H s (fun _ _ _ => False) e s') : False := by
  obtain ⟨_, _, _, _, _, _, _, _, _, _, _, _, z⟩ := h
  exact z
/-- the law's def keeps it -/
theorem law_ok {P : Program} {w : World} {K : PySem.W.Frag} {mg : Str → Option Value} {base : Heap} {st : Stmt} {f : Addr} {fd : FuncData} {N : List Str} {k : Nat} {m : MoS} (F : Fun K "law" "law" st f fd) (S : FnScope N ["script"] (defScope st)) (hN : (["script"] : List Str).length ≤ N.length)
    (body : ∀ (cdv : Value) (A : Around) (outer : List Env) (s : Shared) (H : Hp) (B : Bs) (E : XK), L2.Room k (A.deeper (envOfC "law" (defScope st) s.heap.objs.size f cdv)) → Fact' N.Nodup →
      SSE (cxD P w K mg base N "law" (defScope st) f cdv A outer s H E) ⟨⟨K, mg⟩, N.length, B, H⟩ (WD E) (defBody st) m)
    (hF : ∀ ns : List Int, ns.length ≤ 63 → ∃ g, fnM N.length m [.scr ns] [] = .ok (.d (.bl true)) g) : FnOk P w K mg base (L2.CX P w) (k + 1) f fd ["script"] (spLaw K) :=
  (fn_ok F S hN fun cdv A outer s H B E hr => body cdv A outer s H B E hr ⟨S.nd⟩).imp fun _ _ _ _ h => spLaw_of hF h
end Y
namespace Y
open PySem PySem.Spec PyProof.Rows L2
theorem law_at {K : PySem.W.Frag} {h : Heap} {mg : Str → Option Value} {fa : Addr} (X : K.In h) (G : h.Ns mainGlobals mg) (hfa : mg "law" = some (.ref fa)) (st : Stmt) {f : Addr} {oc kV dc pm cd ct : Value} {od an : Option Addr} {sl : Array (Option Value)}
    (a : PySem.W.nsIn K mainGlobals "law" = some (some (.ref f))) (l : K.lookup f = some ⟨oc, od, .func (PySem.W.fnOf "law" "law" (defArgs st) (defBody st) (defScope st) .none kV dc pm an cd ct), sl⟩)
    (c : PySem.W.codeIn K cd "law" = true) (k : PySem.W.keepIn K (.ref f) = true)
    (hb : ∀ (kV doc pm : Value) (an : Option Addr) (cdv ct : Value) (u : Value), bindArgs (PySem.W.fnOf "law" "law" (defArgs st) (defBody st) (defScope st) .none kV doc pm an cdv ct) ⟨[u], []⟩ = pure [(("script" : Str), u)]) :
    ∃ (fd : FuncData), mg "law" = some (.ref fa) ∧ L2.Fun K "law" "law" st fa fd ∧ ∀ (s : Shared) (u : Value), BindsTo s fd ⟨[u], []⟩ [("script", u)] := by
  have e := hfa.symm.trans (PySem.W.mg_of X G a)
  cases e
  exact ⟨_, hfa, fun_mk l c k, fun s u => .of_eq (hb _ _ _ _ _ _ u)⟩
end Y
namespace Y
open PySem PySem.Spec PyProof.Rows L2
/-! ### the mirrors' plain laws -/
theorem sm_of {i : Int} (h1 : -1606938044258990275541962092341162602522202993782792835301376 ≤ i) (h2 : i ≤ 1606938044258990275541962092341162602522202993782792835301376) : sm i = true := by
  have e : (2 : Nat) ^ 200 = 1606938044258990275541962092341162602522202993782792835301376 := by decide
  have h : i.natAbs < 2 ^ 201 := by
    have e : (2 : Nat) ^ 201 = 3213876088517980551083924184682325205044405987565585670602752 := by decide
    omega
  exact decide_eq_true (Nat.lt_of_lt_of_le h (Nat.pow_le_pow_right (by decide) (by decide)))
theorem mulC_l {i j : Int} (h1 : -18446744073709551616 < i) (h2 : i < 18446744073709551616) : mulC i j = true := by
  have h : decide (i.natAbs < 2 ^ 64) = true := decide_eq_true (by omega)
  unfold mulC
  rw [h]
  rfl
theorem mulC_r {i j : Int} (h1 : -18446744073709551616 < j) (h2 : j < 18446744073709551616) : mulC i j = true := by
  have h : decide (j.natAbs < 2 ^ 64) = true := decide_eq_true (by omega)
  unfold mulC
  rw [h, Bool.or_true]
  rfl
theorem mulC_s {i j : Int} (h1 : sm i = true) (h2 : sm j = true) : mulC i j = true := by
  unfold mulC
  rw [h1, h2]
  simp
theorem divC_of {i j : Int} (h1 : 0 < j) (h2 : j ≤ 1606938044258990275541962092341162602522202993782792835301376) : divC i j = true := by
  have h : j.natAbs < 2 ^ 201 := by
    have e : (2 : Nat) ^ 201 = 3213876088517980551083924184682325205044405987565585670602752 := by decide
    omega
  unfold divC
  rw [decide_eq_true h1, decide_eq_true (Nat.lt_of_lt_of_le h (Nat.pow_le_pow_right (by decide) (show 201 ≤ 9000 by decide)))]
  rfl
theorem shlC_of {i j : Int} (h1 : 0 ≤ j) (h2 : j ≤ 1000000) (h3 : sm i = true) : shlC i j = true := by
  unfold shlC
  rw [decide_eq_true h1, decide_eq_true (show j.natAbs ≤ 1000000 by omega), h3]
  rfl
theorem powC_of {i j : Int} (h1 : 0 ≤ j) (h2 : j ≤ 1000000) (h3 : -18446744073709551616 < i) (h4 : i < 18446744073709551616) : powC i j = true := by
  have h : decide (i.natAbs < 2 ^ 64) = true := decide_eq_true (by omega)
  unfold powC
  rw [decide_eq_true h1, decide_eq_true (show j.natAbs ≤ 1000000 by omega), h]
  rfl
theorem inR_of {i : Int} (h1 : -4611686018427387904 < i) (h2 : i < 4611686018427387904) : inR i = true := by
  have h : i.natAbs < 4611686018427387904 := by omega
  exact decide_eq_true h
theorem atI_nat {α : Type} {xs : List α} {k : Nat} : atI xs (k : Int) = xs[k]? := by
  unfold atI ixN
  by_cases h : k < xs.length
  · simp [h]
  · rw [if_pos (by omega), if_neg (by omega), List.getElem?_eq_none (by omega)]
    rfl
theorem atI_of {α : Type} {xs : List α} {i : Int} (h0 : 0 ≤ i) : atI xs i = xs[i.toNat]? := by
  obtain ⟨k, rfl⟩ := Int.eq_ofNat_of_zero_le h0
  rw [atI_nat]
  rfl
@[simp] theorem atI_z {α : Type} {x : α} {xs : List α} : atI (x :: xs) 0 = some x := by rw [atI_of (by decide)]; rfl
theorem atI_last {α : Type} {xs : List α} : atI xs (-1) = xs.getLast? := by
  unfold atI ixN
  cases xs with
  | nil => rfl
  | cons x xs =>
    rw [if_neg (by decide), if_pos (by simp only [List.length_cons]; omega)]
    rw [List.getLast?_eq_getElem?]
    show (x :: xs)[((-1 : Int) + ((x :: xs).length : Nat)).toNat]? = _
    congr 1
    simp only [List.length_cons]
    omega
/-! ### == -/
def eqDs : List D → List D → Bool
  | [], [] => true
  | x :: xs, y :: ys => eqD x y && eqDs xs ys
  | _, _ => false
theorem eqDs_ok : ∀ xs ys : List D, PyData.eqvAll (toPs xs) (toPs ys) = eqDs xs ys
  | [], [] => rfl
  | [], _ :: _ => rfl
  | _ :: _, [] => rfl
  | x :: xs, y :: ys => by
    show (PyData.eqv (toP x) (toP y) && PyData.eqvAll (toPs xs) (toPs ys)) = _
    rw [eqDs_ok xs ys]
    rfl
@[simp] theorem eqD_int (i j : Int) : eqD (.int i) (.int j) = decide (i = j) := by
  show (i == j) = _
  rw [Bool.eq_iff_iff]
  simp
@[simp] theorem eqD_tup (xs ys : List D) : eqD (.tup xs) (.tup ys) = eqDs xs ys := eqDs_ok xs ys
@[simp] theorem eqD_lst (xs ys : List D) : eqD (.lst xs) (.lst ys) = eqDs xs ys := eqDs_ok xs ys
@[simp] theorem eqD_bl (i j : Bool) : eqD (.bl i) (.bl j) = (i == j) := rfl
@[simp] theorem eqD_str (i j : Str) : eqD (.str i) (.str j) = (i == j) := rfl
@[simp] theorem eqD_ti (xs : List D) (i : Int) : eqD (.tup xs) (.int i) = false := rfl
@[simp] theorem eqDs_nil : eqDs [] [] = true := rfl
@[simp] theorem eqDs_cons (x y : D) (xs ys : List D) : eqDs (x :: xs) (y :: ys) = (eqD x y && eqDs xs ys) := rfl
@[simp] theorem eqDs_nc (y : D) (ys : List D) : eqDs [] (y :: ys) = false := rfl
@[simp] theorem eqDs_cn (y : D) (ys : List D) : eqDs (y :: ys) [] = false := rfl
theorem eqDs_ints : ∀ xs ys : List Int, eqDs (xs.map D.int) (ys.map D.int) = decide (xs = ys)
  | [], [] => rfl
  | [], _ :: _ => by simp
  | _ :: _, [] => by simp
  | x :: xs, y :: ys => by
    rw [List.map_cons, List.map_cons, eqDs_cons, eqDs_ints xs ys, eqD_int]
    simp [Bool.decide_and]
/-- depth at most n, figures all ints -/
def sh (n : Nat) (d : D) : Bool := (toP d).canLay0 && decide ((toP d).depth ≤ n)
theorem shp_of {d : D} {n : Nat} (h : sh n d = true) (hn : n ≤ 64) : shp d = true := by
  unfold sh at h
  rw [Bool.and_eq_true] at h
  show ((toP d).canLay0 && decide ((toP d).depth ≤ 64)) = true
  rw [h.1, decide_eq_true (Nat.le_trans (of_decide_eq_true h.2) hn)]
  rfl
@[simp] theorem sh_int (n : Nat) (i : Int) : sh n (.int i) = true := by
  show (true && decide (0 ≤ n)) = true
  simp
@[simp] theorem sh_bl (n : Nat) (i : Bool) : sh n (.bl i) = true := by
  show (true && decide (0 ≤ n)) = true
  simp
@[simp] theorem sh_non (n : Nat) : sh n .non = true := by
  show (true && decide (0 ≤ n)) = true
  simp
theorem shs_ok {n : Nat} : ∀ xs : List D, (PyData.canLayAll0 (toPs xs) && decide (PyData.depthAll (toPs xs) ≤ n)) = xs.all (sh n)
  | [] => by
    show (true && decide (0 ≤ n)) = true
    simp
  | x :: xs => by
    have ih := shs_ok (n := n) xs
    rw [List.all_cons, ← ih]
    show (((toP x).canLay0 && PyData.canLayAll0 (toPs xs)) && decide (max (toP x).depth (PyData.depthAll (toPs xs)) ≤ n)) = (((toP x).canLay0 && decide ((toP x).depth ≤ n)) && _)
    rw [Bool.eq_iff_iff]
    simp only [Bool.and_eq_true, decide_eq_true_eq, Nat.max_le]
    constructor
    · rintro ⟨⟨a, b⟩, c, d⟩; exact ⟨⟨a, c⟩, b, d⟩
    · rintro ⟨⟨a, c⟩, b, d⟩; exact ⟨⟨a, b⟩, c, d⟩
@[simp] theorem sh_tup (n : Nat) (xs : List D) : sh (n + 1) (.tup xs) = xs.all (sh n) := by
  rw [← shs_ok]
  show (PyData.canLayAll0 (toPs xs) && decide (PyData.depthAll (toPs xs) + 1 ≤ n + 1)) = _
  simp
@[simp] theorem sh_lst (n : Nat) (xs : List D) : sh (n + 1) (.lst xs) = xs.all (sh n) := by
  rw [← shs_ok]
  show (PyData.canLayAll0 (toPs xs) && decide (PyData.depthAll (toPs xs) + 1 ≤ n + 1)) = _
  simp
@[simp] theorem shp_int (i : Int) : shp (.int i) = true := shp_of (n := 64) (sh_int _ i) (by decide)
@[simp] theorem shp_bl (i : Bool) : shp (.bl i) = true := shp_of (n := 64) (sh_bl _ i) (by decide)
@[simp] theorem shp_non : shp .non = true := shp_of (n := 64) (sh_non _) (by decide)
theorem shp_eq (d : D) : shp d = sh 64 d := rfl
@[simp] theorem shp_tup (xs : List D) : shp (.tup xs) = xs.all (sh 63) := sh_tup 63 xs
@[simp] theorem shp_lst (xs : List D) : shp (.lst xs) = xs.all (sh 63) := sh_lst 63 xs
@[simp] theorem sh63_tup (xs : List D) : sh 63 (.tup xs) = xs.all (sh 62) := sh_tup 62 xs
@[simp] theorem sh63_lst (xs : List D) : sh 63 (.lst xs) = xs.all (sh 62) := sh_lst 62 xs
@[simp] theorem sh62_tup (xs : List D) : sh 62 (.tup xs) = xs.all (sh 61) := sh_tup 61 xs
@[simp] theorem sh62_lst (xs : List D) : sh 62 (.lst xs) = xs.all (sh 61) := sh_lst 61 xs
@[simp] theorem sh61_tup (xs : List D) : sh 61 (.tup xs) = xs.all (sh 60) := sh_tup 60 xs
@[simp] theorem sh61_lst (xs : List D) : sh 61 (.lst xs) = xs.all (sh 60) := sh_lst 60 xs
@[simp] theorem fEq_int (i j : Int) : fEq (.int i) (.int j) = some (.bl (decide (i = j))) := by simp [fEq]
@[simp] theorem fNe_int (i j : Int) : fNe (.int i) (.int j) = some (.bl (!decide (i = j))) := by simp [fNe]
/-- a chain's first answer -/
@[simp] theorem ite_bl {α : Type} (b : Bool) (x y : α) (f : Bool → α) : (match (some (D.bl b) : Option D) with
    | some (.bl true) => x
    | some (.bl false) => y
    | _ => f b) = if b then x else y := by cases b <;> rfl
/-! ### the scripts' hands -/
def cellsOf (cs : List Int) : List D := cs.map D.int
/-- the hand: the cells, the next one's place, what is left, the mix, how many were mixed -/
def HandOk (g : G) : Prop := ∃ (cs : List Int) (p l m k : Int), g = [.l [.lst (cellsOf cs), .int p, .int l, .int m, .int k]] ∧ (∀ c ∈ cs, 0 ≤ c) ∧ 0 ≤ p ∧ 0 ≤ l
@[simp] theorem cellsOf_len (cs : List Int) : (cellsOf cs).length = cs.length := by simp [cellsOf]
theorem cellsOf_at {cs : List Int} {p : Int} (h0 : 0 ≤ p) (h1 : p < cs.length) : ∃ c ∈ cs, atI (cellsOf cs) p = some (.int c) := by
  have h : p.toNat < cs.length := by omega
  refine ⟨cs[p.toNat], List.getElem_mem _, ?_⟩
  rw [atI_of h0, cellsOf, List.getElem?_map, List.getElem?_eq_getElem h]
  rfl
/-! ### loops -/
theorem lc_inv {g : Gt} {mt : Mo Bool} {me : Mo D} {own : List Nat} (I : MS → Prop) (R : D → D → Prop) : ∀ (items acc : List D) (st : MS), I st → (∀ x ∈ items, ∀ st, I st → ∃ s1 s2 d s3, g x st = some s1 ∧ mt s1 = .ok true s2 ∧ me s2 = .ok d s3 ∧ R x d ∧ I { s3 with sl := wipeS s3.sl own }) → acc.length + items.length ≤ lim →
    ∃ ds st', lcL g mt me own items acc st = .ok (acc ++ ds) st' ∧ Paired R items ds ∧ I st'
  | [], acc, st, h, _, _ => ⟨[], st, by rw [List.append_nil]; rfl, .nil, h⟩
  | x :: xs, acc, st, h, hs, hl => by
    obtain ⟨s1, s2, d, s3, e1, e2, e3, hr, hi⟩ := hs x List.mem_cons_self st h
    have hl' : acc.length + (xs.length + 1) ≤ lim := hl
    obtain ⟨ds, st', e, hp, hi'⟩ := lc_inv I R xs (acc ++ [d]) _ hi (fun y hy => hs y (List.mem_cons_of_mem _ hy)) (by rw [List.length_append, List.length_singleton]; omega)
    refine ⟨d :: ds, st', ?_, .cons hr hp, hi'⟩
    unfold lcL
    simp only [e1, e2, e3]
    rw [if_pos (decide_eq_true (by omega)), e, List.append_assoc]
    rfl
theorem for_inv {g : Gt} {body : MoS} {wp : List Nat} (I : Nat → MS → Prop) : ∀ (items : List D) (k : Nat) (st : MS), I k st → (∀ j x st, items[j]? = some x → I (k + j) st → ∃ s1 s2, g x st = some s1 ∧ body s1 = .nx s2 ∧ I (k + j + 1) { s2 with sl := wipeS s2.sl wp }) →
    ∃ st', mForL g body wp items st = .nx st' ∧ I (k + items.length) st'
  | [], k, st, h, _ => ⟨st, rfl, h⟩
  | x :: xs, k, st, h, hs => by
    obtain ⟨s1, s2, e1, e2, hi⟩ := hs 0 x st rfl h
    obtain ⟨st', e, hi'⟩ := for_inv I xs (k + 1) _ hi (fun j y s hy hI => by
      have e : k + 1 + j = k + (j + 1) := by omega
      rw [e] at hI ⊢
      exact hs (j + 1) y s hy hI)
    refine ⟨st', ?_, by rw [List.length_cons]; have e : k + (xs.length + 1) = k + 1 + xs.length := by omega
                        rw [e]; exact hi'⟩
    unfold mForL
    simp only [e1, e2]
    exact e
theorem while_inv {mt : Mo Bool} {m : MoS} {wp : List Nat} (I : Nat → MS → Prop) (J : MS → Prop) (step : ∀ n st, I n st → (∃ s, mt st = .ok false s ∧ J s) ∨ ∃ s s2 k, mt st = .ok true s ∧ m s = .nx s2 ∧ k < n ∧ I k { s2 with sl := wipeS s2.sl wp }) :
    ∀ (fu n : Nat) (st : MS), n < fu → I n st → ∃ s, mWhileN mt m wp fu st = .nx s ∧ J s
  | 0, n, st, h, _ => by omega
  | fu + 1, n, st, h, hi => by
    rcases step n st hi with ⟨s, e, hj⟩ | ⟨s, s2, k, e, e2, hk, hi2⟩
    · refine ⟨s, ?_, hj⟩
      unfold mWhileN
      rw [e]
      rfl
    · obtain ⟨s', e', hj⟩ := while_inv I J step fu k _ (by omega) hi2
      refine ⟨s', ?_, hj⟩
      unfold mWhileN
      rw [e]
      show (match m s with
      | .nx s2 => mWhileN mt m wp fu { s2 with sl := wipeS s2.sl wp }
      | .ct s2 => mWhileN mt m wp fu { s2 with sl := wipeS s2.sl wp }
      | .bk s2 => .nx { s2 with sl := wipeS s2.sl wp }
      | .rt r g => .rt r g
      | .ex x as st => .ex x as st
      | .bad => .bad) = _
      rw [e2]
      exact e'
theorem fuel_gt {n : Nat} (h : n < 1000000) : n < fuel := Nat.lt_trans h (by unfold fuel; decide)
theorem while_ok {mt : Mo Bool} {m : MoS} {wp : List Nat} (I : Nat → MS → Prop) (J : MS → Prop) (step : ∀ n st, I n st → (∃ s, mt st = .ok false s ∧ J s) ∨ ∃ s s2 k, mt st = .ok true s ∧ m s = .nx s2 ∧ k < n ∧ I k { s2 with sl := wipeS s2.sl wp }) {n : Nat} {st : MS} (hn : n < 1000000) (hi : I n st) : ∃ s, mWhile mt m wp st = .nx s ∧ J s :=
  while_inv I J step fuel n st (fuel_gt hn) hi
@[simp] theorem rgD_len (lo : Int) (n : Nat) : (rgD lo n).length = n := by simp [rgD]
theorem pos_mod {a b : Int} (h : 0 < b) : 0 ≤ a % b ∧ a % b < b := ⟨Int.emod_nonneg a (by omega), Int.emod_lt_of_pos a h⟩
theorem two_pos (n : Nat) : (0 : Int) < 2 ^ n := Int.pow_pos (by decide)
theorem two_le {n m : Nat} (h : n ≤ m) : (2 : Int) ^ n ≤ 2 ^ m := by
  have := Nat.pow_le_pow_right (show 0 < 2 by decide) h
  exact_mod_cast this
@[simp] theorem tn2 (n : Nat) : (2 * (n : Int)).toNat = 2 * n := by omega
theorem two_two (n : Nat) : (2 : Int) ^ (2 * n) = 2 ^ n * 2 ^ n := by rw [Nat.two_mul, Int.pow_add]
/-- a number by high and low parts -/
theorem hl_mod {X y H : Int} (h0 : 0 ≤ y) (h1 : y < H) : (X * H + y) % (H * H) = X % H * H + y := by
  have hH : 0 < H := by omega
  have e : X * H + y = (X % H * H + y) + H * H * (X / H) := by
    have := Int.emod_add_mul_ediv X H
    have e2 : X * H = (X % H + H * (X / H)) * H := by rw [this]
    rw [e2, Int.add_mul, Int.mul_assoc H (X / H) H, Int.mul_comm (X / H) H, ← Int.mul_assoc]
    omega
  rw [e, Int.add_mul_emod_self_left, Int.emod_eq_of_lt]
  · have := Int.mul_nonneg (pos_mod (a := X) hH).1 (show 0 ≤ H by omega)
    omega
  · have h2 := (pos_mod (a := X) hH).2
    have h3 : X % H ≤ H - 1 := by omega
    have h4 := Int.mul_le_mul_of_nonneg_right h3 (show 0 ≤ H by omega)
    rw [Int.sub_mul] at h4
    omega
theorem hl_hi {X y H : Int} (h0 : 0 ≤ y) (h1 : y < H) : (X * H + y) / H = X := by
  rw [Int.add_comm, Int.add_mul_ediv_right _ _ (by omega), Int.ediv_eq_zero_of_lt h0 h1]
  omega
theorem hl_lo {X y H : Int} (h0 : 0 ≤ y) (h1 : y < H) : (X * H + y) % H = y := by
  rw [Int.add_comm, Int.add_mul_emod_self_right, Int.emod_eq_of_lt h0 h1]
theorem hl_hi2 {X y H : Int} (h0 : 0 ≤ y) (h1 : y < H) : (X * H + y) % (H * H) / H = X % H := by rw [hl_mod h0 h1, hl_hi h0 h1]
theorem hl_lo2 {X y H : Int} (h0 : 0 ≤ y) (h1 : y < H) : (X * H + y) % (H * H) % H = y := by rw [hl_mod h0 h1, hl_lo h0 h1]
end Y
namespace Law
open PySem PySem.Spec PyProof.Rows L2 Y
def topS (i : Nat) : Stmt := PySem.Challenge.pw_wordhouse_k81_whole_two_words.main.body.getD i (.Pass ⟨0, 0, 0, 0⟩)
abbrev k_MOST_WIDTH : D := .int 64
structure Zs (K : PySem.W.Frag) (mg : Str → Option Value) : Prop where
  z_abs : mg "abs" = none
  z_all : mg "all" = none
  z_bool : mg "bool" = none
  z_int : mg "int" = none
  z_isinstance : mg "isinstance" = none
  z_len : mg "len" = none
  z_max : mg "max" = none
  z_range : mg "range" = none
  z_repr : mg "repr" = none
  z_str : mg "str" = none
  z_tuple : mg "tuple" = none
  g_MOST_WIDTH : KonstAt K mg "MOST_WIDTH" k_MOST_WIDTH
abbrev s_is_integer : Stmt := topS 1
theorem sc_is_integer : FnScope ["thing"] ["thing"] (defScope s_is_integer) := ⟨rfl, rfl, rfl, by decide +kernel, rfl, by decide +kernel, by decide +kernel⟩
def m_is_integer : MoS :=
  (mRet (mX (mAndV (mIsi .int (mVar 0)) (mNotV (mIsi .bl (mVar 0))))))
def F_is_integer : Fm := fnM 1 m_is_integer
theorem body_is_integer {P : Program} {w : World} {K : PySem.W.Frag} {mg : Str → Option Value} {base : Heap} (Z : Zs K mg)  (f : Addr) (cdv : Value) (A : Around) (outer : List Env) (s : Shared) (H : Hp) (B : Bs) (E : XK) (hr : L2.Room 0 (A.deeper (envOfC "is_integer" (defScope s_is_integer) s.heap.objs.size f cdv))) (nd : Fact' (["thing"] : List Str).Nodup) :
    SSE (cxD P w K mg base ["thing"] "is_integer" (defScope s_is_integer) f cdv A outer s H E) ⟨⟨K, mg⟩, (["thing"] : List Str).length, B, H⟩ (WD E) (defBody s_is_integer) m_is_integer := by
  have hu := hr.units
  have hu5 := hr.units5
  exact (sse_one (se_ret (ge_e (ee_and (ee_isi .int (by decide) rfl Z.z_isinstance (by decide +kernel) (v 0) rfl Z.z_int (by decide +kernel)) (ee_one (ee_not (ee_isi .bl (by decide) rfl Z.z_isinstance (by decide +kernel) (v 0) rfl Z.z_bool (by decide +kernel))))))))
theorem cal_is_integer {P : Program} {w : World} {K : PySem.W.Frag} {mg : Str → Option Value} {base : Heap} (Dx : DefAt K mg "is_integer" s_is_integer ["thing"]) (Z : Zs K mg)  : Cal P w K mg base "is_integer" 1 F_is_integer 1 :=
  have h : Cal P w K mg base "is_integer" (["thing"] : List Str).length (fnM (["thing"] : List Str).length m_is_integer) (0 + 1) := cal_of Dx sc_is_integer (by decide) (k := 0) (m := m_is_integer) fun f fd cdv A outer s H B E hr nd => body_is_integer Z  f cdv A outer s H B E hr nd
  h
abbrev s_is_within : Stmt := topS 2
theorem sc_is_within : FnScope ["thing", "low", "high"] ["thing", "low", "high"] (defScope s_is_within) := ⟨rfl, rfl, rfl, by decide +kernel, rfl, by decide +kernel, by decide +kernel⟩
def m_is_within : MoS :=
  (mRet (mX (mAndV (mFz (mCall F_is_integer (mCons (mKeep (mVar 0)) mNil))) (mChain (iB fun i j => decide (i ≤ j)) (iB fun i j => decide (i ≤ j)) (mVar 1) (mVar 0) (mVar 2)))))
def F_is_within : Fm := fnM 3 m_is_within
theorem body_is_within {P : Program} {w : World} {K : PySem.W.Frag} {mg : Str → Option Value} {base : Heap} (Z : Zs K mg) (G_is_integer : Cal P w K mg base "is_integer" 1 F_is_integer 1) (f : Addr) (cdv : Value) (A : Around) (outer : List Env) (s : Shared) (H : Hp) (B : Bs) (E : XK) (hr : L2.Room 1 (A.deeper (envOfC "is_within" (defScope s_is_within) s.heap.objs.size f cdv))) (nd : Fact' (["thing", "low", "high"] : List Str).Nodup) :
    SSE (cxD P w K mg base ["thing", "low", "high"] "is_within" (defScope s_is_within) f cdv A outer s H E) ⟨⟨K, mg⟩, (["thing", "low", "high"] : List Str).length, B, H⟩ (WD E) (defBody s_is_within) m_is_within := by
  have hu := hr.units
  have hu5 := hr.units5
  exact (sse_one (se_ret (ge_e (ee_and (ee_fz (ge_call (G_is_integer.k hr (by decide)) rfl (ae_cons (de_keep (v 0)) ae_nil) rfl (hms := (mCons_len mNil_len)))) (ee_one (ee_chain ok_le ok_le (v 1) (v 0) (v 2)))))))
theorem cal_is_within {P : Program} {w : World} {K : PySem.W.Frag} {mg : Str → Option Value} {base : Heap} (Dx : DefAt K mg "is_within" s_is_within ["thing", "low", "high"]) (Z : Zs K mg) (G_is_integer : Cal P w K mg base "is_integer" 1 F_is_integer 1) : Cal P w K mg base "is_within" 3 F_is_within 2 :=
  have h : Cal P w K mg base "is_within" (["thing", "low", "high"] : List Str).length (fnM (["thing", "low", "high"] : List Str).length m_is_within) (1 + 1) := cal_of Dx sc_is_within (by decide) (k := 1) (m := m_is_within) fun f fd cdv A outer s H B E hr nd => body_is_within Z G_is_integer f cdv A outer s H B E hr nd
  h
abbrev s_check_width : Stmt := topS 12
theorem sc_check_width : FnScope ["width"] ["width"] (defScope s_check_width) := ⟨rfl, rfl, rfl, by decide +kernel, rfl, by decide +kernel, by decide +kernel⟩
def m_check_width : MoS :=
  (mIfS (mNot (mTest (mFz (mCall F_is_within (mCons (mKeep (mVar 0)) (mCons (mKeep (mC (.int 1))) (mCons (mKeep (mC k_MOST_WIDTH)) mNil)))))))
    mBad
    mSkip)
def F_check_width : Fm := fnM 1 m_check_width
theorem body_check_width {P : Program} {w : World} {K : PySem.W.Frag} {mg : Str → Option Value} {base : Heap} (Z : Zs K mg) (G_is_within : Cal P w K mg base "is_within" 3 F_is_within 2) (f : Addr) (cdv : Value) (A : Around) (outer : List Env) (s : Shared) (H : Hp) (B : Bs) (E : XK) (hr : L2.Room 2 (A.deeper (envOfC "check_width" (defScope s_check_width) s.heap.objs.size f cdv))) (nd : Fact' (["width"] : List Str).Nodup) :
    SSE (cxD P w K mg base ["width"] "check_width" (defScope s_check_width) f cdv A outer s H E) ⟨⟨K, mg⟩, (["width"] : List Str).length, B, H⟩ (WD E) (defBody s_check_width) m_check_width := by
  have hu := hr.units
  have hu5 := hr.units5
  exact (sse_one (se_if (te_not (te_val (ee_fz (ge_call (G_is_within.k hr (by decide)) rfl (ae_cons (de_keep (v 0)) (ae_cons (de_keep ee_int) (ae_cons (de_keep (ee_glob rfl (Z.g_MOST_WIDTH).hm (Z.g_MOST_WIDTH).rv (Z.g_MOST_WIDTH).hd)) ae_nil))) rfl (hms := (mCons_len (mCons_len (mCons_len mNil_len))))))))
    (sse_one se_bad)
    sse_nil))
theorem cal_check_width {P : Program} {w : World} {K : PySem.W.Frag} {mg : Str → Option Value} {base : Heap} (Dx : DefAt K mg "check_width" s_check_width ["width"]) (Z : Zs K mg) (G_is_within : Cal P w K mg base "is_within" 3 F_is_within 2) : Cal P w K mg base "check_width" 1 F_check_width 3 :=
  have h : Cal P w K mg base "check_width" (["width"] : List Str).length (fnM (["width"] : List Str).length m_check_width) (2 + 1) := cal_of Dx sc_check_width (by decide) (k := 2) (m := m_check_width) fun f fd cdv A outer s H B E hr nd => body_check_width Z G_is_within f cdv A outer s H B E hr nd
  h
abbrev s_is_word : Stmt := topS 13
theorem sc_is_word : FnScope ["width", "thing"] ["width", "thing"] (defScope s_is_word) := ⟨rfl, rfl, rfl, by decide +kernel, rfl, by decide +kernel, by decide +kernel⟩
def m_is_word : MoS :=
  (mSeq (mDrop (mCall F_check_width (mCons (mKeep (mVar 0)) mNil)))
    (mRet (mCall F_is_within (mCons (mKeep (mVar 1)) (mCons (mKeep (mC (.int 0))) (mCons (mKeep (mOp2 (iI fun i j => i - j) (mOp2 (iC shlC fun i j => i * 2 ^ j.toNat) (mC (.int 1)) (mVar 0)) (mC (.int 1)))) mNil))))))
def F_is_word : Fm := fnM 2 m_is_word
theorem body_is_word {P : Program} {w : World} {K : PySem.W.Frag} {mg : Str → Option Value} {base : Heap} (Z : Zs K mg) (G_is_within : Cal P w K mg base "is_within" 3 F_is_within 2) (G_check_width : Cal P w K mg base "check_width" 1 F_check_width 3) (f : Addr) (cdv : Value) (A : Around) (outer : List Env) (s : Shared) (H : Hp) (B : Bs) (E : XK) (hr : L2.Room 3 (A.deeper (envOfC "is_word" (defScope s_is_word) s.heap.objs.size f cdv))) (nd : Fact' (["width", "thing"] : List Str).Nodup) :
    SSE (cxD P w K mg base ["width", "thing"] "is_word" (defScope s_is_word) f cdv A outer s H E) ⟨⟨K, mg⟩, (["width", "thing"] : List Str).length, B, H⟩ (WD E) (defBody s_is_word) m_is_word := by
  have hu := hr.units
  have hu5 := hr.units5
  exact (sse_cons (se_expr (ge_call (G_check_width.k hr (by decide)) rfl (ae_cons (de_keep (v 0)) ae_nil) rfl (hms := (mCons_len mNil_len))))
    (sse_one (se_ret (ge_call (G_is_within.k hr (by decide)) rfl (ae_cons (de_keep (v 1)) (ae_cons (de_keep ee_int) (ae_cons (de_keep (ee_op2 ok_sub (ee_op2 ok_shl ee_int (v 0)) ee_int)) ae_nil))) rfl (hms := (mCons_len (mCons_len (mCons_len mNil_len))))))))
theorem cal_is_word {P : Program} {w : World} {K : PySem.W.Frag} {mg : Str → Option Value} {base : Heap} (Dx : DefAt K mg "is_word" s_is_word ["width", "thing"]) (Z : Zs K mg) (G_is_within : Cal P w K mg base "is_within" 3 F_is_within 2) (G_check_width : Cal P w K mg base "check_width" 1 F_check_width 3) : Cal P w K mg base "is_word" 2 F_is_word 4 :=
  have h : Cal P w K mg base "is_word" (["width", "thing"] : List Str).length (fnM (["width", "thing"] : List Str).length m_is_word) (3 + 1) := cal_of Dx sc_is_word (by decide) (k := 3) (m := m_is_word) fun f fd cdv A outer s H B E hr nd => body_is_word Z G_is_within G_check_width f cdv A outer s H B E hr nd
  h
abbrev s_check_word : Stmt := topS 14
theorem sc_check_word : FnScope ["width", "word"] ["width", "word"] (defScope s_check_word) := ⟨rfl, rfl, rfl, by decide +kernel, rfl, by decide +kernel, by decide +kernel⟩
def m_check_word : MoS :=
  (mIfS (mNot (mTest (mFz (mCall F_is_word (mCons (mKeep (mVar 0)) (mCons (mKeep (mVar 1)) mNil))))))
    mBad
    mSkip)
def F_check_word : Fm := fnM 2 m_check_word
theorem body_check_word {P : Program} {w : World} {K : PySem.W.Frag} {mg : Str → Option Value} {base : Heap} (Z : Zs K mg) (G_is_word : Cal P w K mg base "is_word" 2 F_is_word 4) (f : Addr) (cdv : Value) (A : Around) (outer : List Env) (s : Shared) (H : Hp) (B : Bs) (E : XK) (hr : L2.Room 4 (A.deeper (envOfC "check_word" (defScope s_check_word) s.heap.objs.size f cdv))) (nd : Fact' (["width", "word"] : List Str).Nodup) :
    SSE (cxD P w K mg base ["width", "word"] "check_word" (defScope s_check_word) f cdv A outer s H E) ⟨⟨K, mg⟩, (["width", "word"] : List Str).length, B, H⟩ (WD E) (defBody s_check_word) m_check_word := by
  have hu := hr.units
  have hu5 := hr.units5
  exact (sse_one (se_if (te_not (te_val (ee_fz (ge_call (G_is_word.k hr (by decide)) rfl (ae_cons (de_keep (v 0)) (ae_cons (de_keep (v 1)) ae_nil)) rfl (hms := (mCons_len (mCons_len mNil_len)))))))
    (sse_one se_bad)
    sse_nil))
theorem cal_check_word {P : Program} {w : World} {K : PySem.W.Frag} {mg : Str → Option Value} {base : Heap} (Dx : DefAt K mg "check_word" s_check_word ["width", "word"]) (Z : Zs K mg) (G_is_word : Cal P w K mg base "is_word" 2 F_is_word 4) : Cal P w K mg base "check_word" 2 F_check_word 5 :=
  have h : Cal P w K mg base "check_word" (["width", "word"] : List Str).length (fnM (["width", "word"] : List Str).length m_check_word) (4 + 1) := cal_of Dx sc_check_word (by decide) (k := 4) (m := m_check_word) fun f fd cdv A outer s H B E hr nd => body_check_word Z G_is_word f cdv A outer s H B E hr nd
  h
abbrev s_check_double : Stmt := topS 16
theorem sc_check_double : FnScope ["width", "pair"] ["width", "pair"] (defScope s_check_double) := ⟨rfl, rfl, rfl, by decide +kernel, rfl, by decide +kernel, by decide +kernel⟩
def m_check_double : MoS :=
  (mSeq (mDrop (mCall F_check_word (mCons (mKeep (mVar 0)) (mCons (mKeep (mC (.int 0))) mNil))))
    (mSeq (mIfS (mOr (mNot (mTest (mIsi .tup (mVar 1)))) (mTest (mOp2 fNe (mFz (mCB fLen (vCons (mVar 1) vNil))) (mC (.int 2)))))
    mBad
    mSkip)
    (mSeq (mDrop (mCall F_check_word (mCons (mKeep (mVar 0)) (mCons (mKeep (mOp2 fIx (mVar 1) (mC (.int 0)))) mNil))))
    (mDrop (mCall F_check_word (mCons (mKeep (mVar 0)) (mCons (mKeep (mOp2 fIx (mVar 1) (mC (.int 1)))) mNil)))))))
def F_check_double : Fm := fnM 2 m_check_double
theorem body_check_double {P : Program} {w : World} {K : PySem.W.Frag} {mg : Str → Option Value} {base : Heap} (Z : Zs K mg) (G_check_word : Cal P w K mg base "check_word" 2 F_check_word 5) (f : Addr) (cdv : Value) (A : Around) (outer : List Env) (s : Shared) (H : Hp) (B : Bs) (E : XK) (hr : L2.Room 5 (A.deeper (envOfC "check_double" (defScope s_check_double) s.heap.objs.size f cdv))) (nd : Fact' (["width", "pair"] : List Str).Nodup) :
    SSE (cxD P w K mg base ["width", "pair"] "check_double" (defScope s_check_double) f cdv A outer s H E) ⟨⟨K, mg⟩, (["width", "pair"] : List Str).length, B, H⟩ (WD E) (defBody s_check_double) m_check_double := by
  have hu := hr.units
  have hu5 := hr.units5
  exact (sse_cons (se_expr (ge_call (G_check_word.k hr (by decide)) rfl (ae_cons (de_keep (v 0)) (ae_cons (de_keep ee_int) ae_nil)) rfl (hms := (mCons_len (mCons_len mNil_len)))))
    (sse_cons (se_if (te_w (we_or (te_not (te_val (ee_isi .tup (by decide) rfl Z.z_isinstance (by decide +kernel) (v 1) rfl Z.z_tuple (by decide +kernel)))) (we_or1 (te_cmp (ok_ne hu) (ee_fz (ge_callB ok_len rfl Z.z_len (by decide +kernel) (ve_cons (v 1) ve_nil))) ee_int (nomark _)))))
    (sse_one se_bad)
    sse_nil)
    (sse_cons (se_expr (ge_call (G_check_word.k hr (by decide)) rfl (ae_cons (de_keep (v 0)) (ae_cons (de_keep (ee_ix (v 1) ee_int)) ae_nil)) rfl (hms := (mCons_len (mCons_len mNil_len)))))
    (sse_one (se_expr (ge_call (G_check_word.k hr (by decide)) rfl (ae_cons (de_keep (v 0)) (ae_cons (de_keep (ee_ix (v 1) ee_int)) ae_nil)) rfl (hms := (mCons_len (mCons_len mNil_len)))))))))
theorem cal_check_double {P : Program} {w : World} {K : PySem.W.Frag} {mg : Str → Option Value} {base : Heap} (Dx : DefAt K mg "check_double" s_check_double ["width", "pair"]) (Z : Zs K mg) (G_check_word : Cal P w K mg base "check_word" 2 F_check_word 5) : Cal P w K mg base "check_double" 2 F_check_double 6 :=
  have h : Cal P w K mg base "check_double" (["width", "pair"] : List Str).length (fnM (["width", "pair"] : List Str).length m_check_double) (5 + 1) := cal_of Dx sc_check_double (by decide) (k := 5) (m := m_check_double) fun f fd cdv A outer s H B E hr nd => body_check_double Z G_check_word f cdv A outer s H B E hr nd
  h
abbrev s_whole : Stmt := topS 17
theorem sc_whole : FnScope ["width", "pair"] ["width", "pair"] (defScope s_whole) := ⟨rfl, rfl, rfl, by decide +kernel, rfl, by decide +kernel, by decide +kernel⟩
def m_whole : MoS :=
  (mSeq (mDrop (mCall F_check_double (mCons (mKeep (mVar 0)) (mCons (mKeep (mVar 1)) mNil))))
    (mRet (mX (mOp2 (iI Builtin.bitOr) (mOp2 (iC shlC fun i j => i * 2 ^ j.toNat) (mOp2 fIx (mVar 1) (mC (.int 0))) (mVar 0)) (mOp2 fIx (mVar 1) (mC (.int 1)))))))
def F_whole : Fm := fnM 2 m_whole
theorem body_whole {P : Program} {w : World} {K : PySem.W.Frag} {mg : Str → Option Value} {base : Heap} (Z : Zs K mg) (G_check_double : Cal P w K mg base "check_double" 2 F_check_double 6) (f : Addr) (cdv : Value) (A : Around) (outer : List Env) (s : Shared) (H : Hp) (B : Bs) (E : XK) (hr : L2.Room 6 (A.deeper (envOfC "whole" (defScope s_whole) s.heap.objs.size f cdv))) (nd : Fact' (["width", "pair"] : List Str).Nodup) :
    SSE (cxD P w K mg base ["width", "pair"] "whole" (defScope s_whole) f cdv A outer s H E) ⟨⟨K, mg⟩, (["width", "pair"] : List Str).length, B, H⟩ (WD E) (defBody s_whole) m_whole := by
  have hu := hr.units
  have hu5 := hr.units5
  exact (sse_cons (se_expr (ge_call (G_check_double.k hr (by decide)) rfl (ae_cons (de_keep (v 0)) (ae_cons (de_keep (v 1)) ae_nil)) rfl (hms := (mCons_len (mCons_len mNil_len)))))
    (sse_one (se_ret (ge_e (ee_op2 ok_or (ee_op2 ok_shl (ee_ix (v 1) ee_int) (v 0)) (ee_ix (v 1) ee_int))))))
theorem cal_whole {P : Program} {w : World} {K : PySem.W.Frag} {mg : Str → Option Value} {base : Heap} (Dx : DefAt K mg "whole" s_whole ["width", "pair"]) (Z : Zs K mg) (G_check_double : Cal P w K mg base "check_double" 2 F_check_double 6) : Cal P w K mg base "whole" 2 F_whole 7 :=
  have h : Cal P w K mg base "whole" (["width", "pair"] : List Str).length (fnM (["width", "pair"] : List Str).length m_whole) (6 + 1) := cal_of Dx sc_whole (by decide) (k := 6) (m := m_whole) fun f fd cdv A outer s H B E hr nd => body_whole Z G_check_double f cdv A outer s H B E hr nd
  h
abbrev s_split : Stmt := topS 19
theorem sc_split : FnScope ["width", "number", "told"] ["width", "number"] (defScope s_split) := ⟨rfl, rfl, rfl, by decide +kernel, rfl, by decide +kernel, by decide +kernel⟩
def m_split : MoS :=
  (mSeq (mSet 2 (mX (mOp2 (iC (fun _ j => decide (0 < j)) fun i j => i % j) (mVar 1) (mOp2 (iC shlC fun i j => i * 2 ^ j.toNat) (mC (.int 1)) (mOp2 (iC mulC fun i j => i * j) (mC (.int 2)) (mVar 0))))))
    (mRet (mX (mTup (mCons (mKeep (mOp2 (iC (fun _ j => decide (0 ≤ j)) fun i j => i / 2 ^ j.toNat) (mVar 2) (mVar 0))) (mCons (mKeep (mOp2 (iC (fun _ j => decide (0 < j)) fun i j => i % j) (mVar 2) (mOp2 (iC shlC fun i j => i * 2 ^ j.toNat) (mC (.int 1)) (mVar 0)))) mNil))))))
def F_split : Fm := fnM 3 m_split
theorem body_split {P : Program} {w : World} {K : PySem.W.Frag} {mg : Str → Option Value} {base : Heap} (Z : Zs K mg)  (f : Addr) (cdv : Value) (A : Around) (outer : List Env) (s : Shared) (H : Hp) (B : Bs) (E : XK) (hr : L2.Room 0 (A.deeper (envOfC "split" (defScope s_split) s.heap.objs.size f cdv))) (nd : Fact' (["width", "number", "told"] : List Str).Nodup) :
    SSE (cxD P w K mg base ["width", "number", "told"] "split" (defScope s_split) f cdv A outer s H E) ⟨⟨K, mg⟩, (["width", "number", "told"] : List Str).length, B, H⟩ (WD E) (defBody s_split) m_split := by
  have hu := hr.units
  have hu5 := hr.units5
  exact (sse_cons (st 2 (ge_e (ee_op2 ok_mod (v 1) (ee_op2 ok_shl ee_int (ee_op2 ok_mulI ee_int (v 0))))))
    (sse_one (se_ret (ge_e (ee_tup (ae_cons (de_keep (ee_op2 ok_shr (v 2) (v 0))) (ae_cons (de_keep (ee_op2 ok_mod (v 2) (ee_op2 ok_shl ee_int (v 0)))) ae_nil)))))))
theorem cal_split {P : Program} {w : World} {K : PySem.W.Frag} {mg : Str → Option Value} {base : Heap} (Dx : DefAt K mg "split" s_split ["width", "number"]) (Z : Zs K mg)  : Cal P w K mg base "split" 2 F_split 1 :=
  have h : Cal P w K mg base "split" (["width", "number"] : List Str).length (fnM (["width", "number", "told"] : List Str).length m_split) (0 + 1) := cal_of Dx sc_split (by decide) (k := 0) (m := m_split) fun f fd cdv A outer s H B E hr nd => body_split Z  f cdv A outer s H B E hr nd
  h
abbrev s_double_of : Stmt := topS 18
theorem sc_double_of : FnScope ["width", "number"] ["width", "number"] (defScope s_double_of) := ⟨rfl, rfl, rfl, by decide +kernel, rfl, by decide +kernel, by decide +kernel⟩
def m_double_of : MoS :=
  (mSeq (mDrop (mCall F_check_word (mCons (mKeep (mVar 0)) (mCons (mKeep (mC (.int 0))) mNil))))
    (mSeq (mIfS (mNot (mTest (mFz (mCall F_is_within (mCons (mKeep (mVar 1)) (mCons (mKeep (mOp1 (i1 fun i => -i) (mOp2 (iC shlC fun i j => i * 2 ^ j.toNat) (mC (.int 1)) (mC (.int 200))))) (mCons (mKeep (mOp2 (iC shlC fun i j => i * 2 ^ j.toNat) (mC (.int 1)) (mC (.int 200)))) mNil)))))))
    mBad
    mSkip)
    (mRet (mCall F_split (mCons (mKeep (mVar 0)) (mCons (mKeep (mVar 1)) mNil))))))
def F_double_of : Fm := fnM 2 m_double_of
theorem body_double_of {P : Program} {w : World} {K : PySem.W.Frag} {mg : Str → Option Value} {base : Heap} (Z : Zs K mg) (G_split : Cal P w K mg base "split" 2 F_split 1) (G_is_within : Cal P w K mg base "is_within" 3 F_is_within 2) (G_check_word : Cal P w K mg base "check_word" 2 F_check_word 5) (f : Addr) (cdv : Value) (A : Around) (outer : List Env) (s : Shared) (H : Hp) (B : Bs) (E : XK) (hr : L2.Room 5 (A.deeper (envOfC "double_of" (defScope s_double_of) s.heap.objs.size f cdv))) (nd : Fact' (["width", "number"] : List Str).Nodup) :
    SSE (cxD P w K mg base ["width", "number"] "double_of" (defScope s_double_of) f cdv A outer s H E) ⟨⟨K, mg⟩, (["width", "number"] : List Str).length, B, H⟩ (WD E) (defBody s_double_of) m_double_of := by
  have hu := hr.units
  have hu5 := hr.units5
  exact (sse_cons (se_expr (ge_call (G_check_word.k hr (by decide)) rfl (ae_cons (de_keep (v 0)) (ae_cons (de_keep ee_int) ae_nil)) rfl (hms := (mCons_len (mCons_len mNil_len)))))
    (sse_cons (se_if (te_not (te_val (ee_fz (ge_call (G_is_within.k hr (by decide)) rfl (ae_cons (de_keep (v 1)) (ae_cons (de_keep (ee_op1 ok_neg (ee_op2 ok_shl ee_int ee_int))) (ae_cons (de_keep (ee_op2 ok_shl ee_int ee_int)) ae_nil))) rfl (hms := (mCons_len (mCons_len (mCons_len mNil_len))))))))
    (sse_one se_bad)
    sse_nil)
    (sse_one (se_ret (ge_call (G_split.k hr (by decide)) rfl (ae_cons (de_keep (v 0)) (ae_cons (de_keep (v 1)) ae_nil)) rfl (hms := (mCons_len (mCons_len mNil_len))))))))
theorem cal_double_of {P : Program} {w : World} {K : PySem.W.Frag} {mg : Str → Option Value} {base : Heap} (Dx : DefAt K mg "double_of" s_double_of ["width", "number"]) (Z : Zs K mg) (G_split : Cal P w K mg base "split" 2 F_split 1) (G_is_within : Cal P w K mg base "is_within" 3 F_is_within 2) (G_check_word : Cal P w K mg base "check_word" 2 F_check_word 5) : Cal P w K mg base "double_of" 2 F_double_of 6 :=
  have h : Cal P w K mg base "double_of" (["width", "number"] : List Str).length (fnM (["width", "number"] : List Str).length m_double_of) (5 + 1) := cal_of Dx sc_double_of (by decide) (k := 5) (m := m_double_of) fun f fd cdv A outer s H B E hr nd => body_double_of Z G_split G_is_within G_check_word f cdv A outer s H B E hr nd
  h
abbrev s_double_sum : Stmt := topS 20
theorem sc_double_sum : FnScope ["width", "one", "other", "low", "high"] ["width", "one", "other"] (defScope s_double_sum) := ⟨rfl, rfl, rfl, by decide +kernel, rfl, by decide +kernel, by decide +kernel⟩
def m_double_sum : MoS :=
  (mSeq (mDrop (mCall F_check_double (mCons (mKeep (mVar 0)) (mCons (mKeep (mVar 1)) mNil))))
    (mSeq (mDrop (mCall F_check_double (mCons (mKeep (mVar 0)) (mCons (mKeep (mVar 2)) mNil))))
    (mSeq (mSet 3 (mOpG fAdd (mOp2 fIx (mVar 1) (mC (.int 1))) (mOp2 fIx (mVar 2) (mC (.int 1)))))
    (mSeq (mSet 4 (mX (mOp2 (iI fun i j => i + j) (mFz (mOpG fAdd (mOp2 fIx (mVar 1) (mC (.int 0))) (mOp2 fIx (mVar 2) (mC (.int 0))))) (mOp2 (iC (fun _ j => decide (0 ≤ j)) fun i j => i / 2 ^ j.toNat) (mVar 3) (mVar 0)))))
    (mRet (mX (mTup (mCons (mKeep (mTup (mCons (mKeep (mOp2 (iC (fun _ j => decide (0 < j)) fun i j => i % j) (mVar 4) (mOp2 (iC shlC fun i j => i * 2 ^ j.toNat) (mC (.int 1)) (mVar 0)))) (mCons (mKeep (mOp2 (iC (fun _ j => decide (0 < j)) fun i j => i % j) (mVar 3) (mOp2 (iC shlC fun i j => i * 2 ^ j.toNat) (mC (.int 1)) (mVar 0)))) mNil)))) (mCons (mKeep (mOp2 (iC (fun _ j => decide (0 ≤ j)) fun i j => i / 2 ^ j.toNat) (mVar 4) (mVar 0))) mNil)))))))))
def F_double_sum : Fm := fnM 5 m_double_sum
theorem body_double_sum {P : Program} {w : World} {K : PySem.W.Frag} {mg : Str → Option Value} {base : Heap} (Z : Zs K mg) (G_check_double : Cal P w K mg base "check_double" 2 F_check_double 6) (f : Addr) (cdv : Value) (A : Around) (outer : List Env) (s : Shared) (H : Hp) (B : Bs) (E : XK) (hr : L2.Room 6 (A.deeper (envOfC "double_sum" (defScope s_double_sum) s.heap.objs.size f cdv))) (nd : Fact' (["width", "one", "other", "low", "high"] : List Str).Nodup) :
    SSE (cxD P w K mg base ["width", "one", "other", "low", "high"] "double_sum" (defScope s_double_sum) f cdv A outer s H E) ⟨⟨K, mg⟩, (["width", "one", "other", "low", "high"] : List Str).length, B, H⟩ (WD E) (defBody s_double_sum) m_double_sum := by
  have hu := hr.units
  have hu5 := hr.units5
  exact (sse_cons (se_expr (ge_call (G_check_double.k hr (by decide)) rfl (ae_cons (de_keep (v 0)) (ae_cons (de_keep (v 1)) ae_nil)) rfl (hms := (mCons_len (mCons_len mNil_len)))))
    (sse_cons (se_expr (ge_call (G_check_double.k hr (by decide)) rfl (ae_cons (de_keep (v 0)) (ae_cons (de_keep (v 2)) ae_nil)) rfl (hms := (mCons_len (mCons_len mNil_len)))))
    (sse_cons (st 3 (ge_op2 ok_add (ee_ix (v 1) ee_int) (ee_ix (v 2) ee_int)))
    (sse_cons (st 4 (ge_e (ee_op2 ok_addI (ee_fz (ge_op2 ok_add (ee_ix (v 1) ee_int) (ee_ix (v 2) ee_int))) (ee_op2 ok_shr (v 3) (v 0)))))
    (sse_one (se_ret (ge_e (ee_tup (ae_cons (de_keep (ee_tup (ae_cons (de_keep (ee_op2 ok_mod (v 4) (ee_op2 ok_shl ee_int (v 0)))) (ae_cons (de_keep (ee_op2 ok_mod (v 3) (ee_op2 ok_shl ee_int (v 0)))) ae_nil)))) (ae_cons (de_keep (ee_op2 ok_shr (v 4) (v 0))) ae_nil))))))))))
theorem cal_double_sum {P : Program} {w : World} {K : PySem.W.Frag} {mg : Str → Option Value} {base : Heap} (Dx : DefAt K mg "double_sum" s_double_sum ["width", "one", "other"]) (Z : Zs K mg) (G_check_double : Cal P w K mg base "check_double" 2 F_check_double 6) : Cal P w K mg base "double_sum" 3 F_double_sum 7 :=
  have h : Cal P w K mg base "double_sum" (["width", "one", "other"] : List Str).length (fnM (["width", "one", "other", "low", "high"] : List Str).length m_double_sum) (6 + 1) := cal_of Dx sc_double_sum (by decide) (k := 6) (m := m_double_sum) fun f fd cdv A outer s H B E hr nd => body_double_sum Z G_check_double f cdv A outer s H B E hr nd
  h
abbrev s_double_difference : Stmt := topS 21
theorem sc_double_difference : FnScope ["width", "one", "other", "low", "high"] ["width", "one", "other"] (defScope s_double_difference) := ⟨rfl, rfl, rfl, by decide +kernel, rfl, by decide +kernel, by decide +kernel⟩
def m_double_difference : MoS :=
  (mSeq (mDrop (mCall F_check_double (mCons (mKeep (mVar 0)) (mCons (mKeep (mVar 1)) mNil))))
    (mSeq (mDrop (mCall F_check_double (mCons (mKeep (mVar 0)) (mCons (mKeep (mVar 2)) mNil))))
    (mSeq (mSet 3 (mX (mOp2 (iI fun i j => i - j) (mOp2 fIx (mVar 1) (mC (.int 1))) (mOp2 fIx (mVar 2) (mC (.int 1))))))
    (mSeq (mSet 4 (mX (mOp2 (iI fun i j => i - j) (mOp2 (iI fun i j => i - j) (mOp2 fIx (mVar 1) (mC (.int 0))) (mOp2 fIx (mVar 2) (mC (.int 0)))) (mFz (mCB fInt (vCons (mOp2 (iB fun i j => decide (i < j)) (mVar 3) (mC (.int 0))) vNil))))))
    (mRet (mX (mTup (mCons (mKeep (mTup (mCons (mKeep (mOp2 (iC (fun _ j => decide (0 < j)) fun i j => i % j) (mVar 4) (mOp2 (iC shlC fun i j => i * 2 ^ j.toNat) (mC (.int 1)) (mVar 0)))) (mCons (mKeep (mOp2 (iC (fun _ j => decide (0 < j)) fun i j => i % j) (mVar 3) (mOp2 (iC shlC fun i j => i * 2 ^ j.toNat) (mC (.int 1)) (mVar 0)))) mNil)))) (mCons (mKeepX (mCB fInt (vCons (mOp2 (iB fun i j => decide (i < j)) (mVar 4) (mC (.int 0))) vNil))) mNil)))))))))
def F_double_difference : Fm := fnM 5 m_double_difference
theorem body_double_difference {P : Program} {w : World} {K : PySem.W.Frag} {mg : Str → Option Value} {base : Heap} (Z : Zs K mg) (G_check_double : Cal P w K mg base "check_double" 2 F_check_double 6) (f : Addr) (cdv : Value) (A : Around) (outer : List Env) (s : Shared) (H : Hp) (B : Bs) (E : XK) (hr : L2.Room 6 (A.deeper (envOfC "double_difference" (defScope s_double_difference) s.heap.objs.size f cdv))) (nd : Fact' (["width", "one", "other", "low", "high"] : List Str).Nodup) :
    SSE (cxD P w K mg base ["width", "one", "other", "low", "high"] "double_difference" (defScope s_double_difference) f cdv A outer s H E) ⟨⟨K, mg⟩, (["width", "one", "other", "low", "high"] : List Str).length, B, H⟩ (WD E) (defBody s_double_difference) m_double_difference := by
  have hu := hr.units
  have hu5 := hr.units5
  exact (sse_cons (se_expr (ge_call (G_check_double.k hr (by decide)) rfl (ae_cons (de_keep (v 0)) (ae_cons (de_keep (v 1)) ae_nil)) rfl (hms := (mCons_len (mCons_len mNil_len)))))
    (sse_cons (se_expr (ge_call (G_check_double.k hr (by decide)) rfl (ae_cons (de_keep (v 0)) (ae_cons (de_keep (v 2)) ae_nil)) rfl (hms := (mCons_len (mCons_len mNil_len)))))
    (sse_cons (st 3 (ge_e (ee_op2 ok_sub (ee_ix (v 1) ee_int) (ee_ix (v 2) ee_int))))
    (sse_cons (st 4 (ge_e (ee_op2 ok_sub (ee_op2 ok_sub (ee_ix (v 1) ee_int) (ee_ix (v 2) ee_int)) (ee_fz (ge_callTy ok_int rfl Z.z_int (by decide +kernel) (ve_cons (ee_cmp ok_lt (v 3) ee_int (nomark _)) ve_nil))))))
    (sse_one (se_ret (ge_e (ee_tup (ae_cons (de_keep (ee_tup (ae_cons (de_keep (ee_op2 ok_mod (v 4) (ee_op2 ok_shl ee_int (v 0)))) (ae_cons (de_keep (ee_op2 ok_mod (v 3) (ee_op2 ok_shl ee_int (v 0)))) ae_nil)))) (ae_cons (de_keepX (ge_callTy ok_int rfl Z.z_int (by decide +kernel) (ve_cons (ee_cmp ok_lt (v 4) ee_int (nomark _)) ve_nil))) ae_nil))))))))))
theorem cal_double_difference {P : Program} {w : World} {K : PySem.W.Frag} {mg : Str → Option Value} {base : Heap} (Dx : DefAt K mg "double_difference" s_double_difference ["width", "one", "other"]) (Z : Zs K mg) (G_check_double : Cal P w K mg base "check_double" 2 F_check_double 6) : Cal P w K mg base "double_difference" 3 F_double_difference 7 :=
  have h : Cal P w K mg base "double_difference" (["width", "one", "other"] : List Str).length (fnM (["width", "one", "other", "low", "high"] : List Str).length m_double_difference) (6 + 1) := cal_of Dx sc_double_difference (by decide) (k := 6) (m := m_double_difference) fun f fd cdv A outer s H B E hr nd => body_double_difference Z G_check_double f cdv A outer s H B E hr nd
  h
abbrev s_double_turned : Stmt := topS 22
theorem sc_double_turned : FnScope ["width", "pair", "most", "low"] ["width", "pair"] (defScope s_double_turned) := ⟨rfl, rfl, rfl, by decide +kernel, rfl, by decide +kernel, by decide +kernel⟩
def m_double_turned : MoS :=
  (mSeq (mDrop (mCall F_check_double (mCons (mKeep (mVar 0)) (mCons (mKeep (mVar 1)) mNil))))
    (mSeq (mSet 2 (mX (mOp2 (iI fun i j => i - j) (mOp2 (iC shlC fun i j => i * 2 ^ j.toNat) (mC (.int 1)) (mVar 0)) (mC (.int 1)))))
    (mSeq (mSet 3 (mX (mOp2 (iC (fun _ j => decide (0 < j)) fun i j => i % j) (mOp2 (iI fun i j => i + j) (mOp2 (iI fun i j => i - j) (mVar 2) (mOp2 fIx (mVar 1) (mC (.int 1)))) (mC (.int 1))) (mOp2 (iC shlC fun i j => i * 2 ^ j.toNat) (mC (.int 1)) (mVar 0)))))
    (mRet (mX (mTup (mCons (mKeep (mOp2 (iC (fun _ j => decide (0 < j)) fun i j => i % j) (mOp2 (iI fun i j => i + j) (mOp2 (iI fun i j => i - j) (mVar 2) (mOp2 fIx (mVar 1) (mC (.int 0)))) (mFz (mCB fInt (vCons (mOp2 fEq (mVar 3) (mC (.int 0))) vNil)))) (mOp2 (iC shlC fun i j => i * 2 ^ j.toNat) (mC (.int 1)) (mVar 0)))) (mCons (mKeep (mVar 3)) mNil))))))))
def F_double_turned : Fm := fnM 4 m_double_turned
theorem body_double_turned {P : Program} {w : World} {K : PySem.W.Frag} {mg : Str → Option Value} {base : Heap} (Z : Zs K mg) (G_check_double : Cal P w K mg base "check_double" 2 F_check_double 6) (f : Addr) (cdv : Value) (A : Around) (outer : List Env) (s : Shared) (H : Hp) (B : Bs) (E : XK) (hr : L2.Room 6 (A.deeper (envOfC "double_turned" (defScope s_double_turned) s.heap.objs.size f cdv))) (nd : Fact' (["width", "pair", "most", "low"] : List Str).Nodup) :
    SSE (cxD P w K mg base ["width", "pair", "most", "low"] "double_turned" (defScope s_double_turned) f cdv A outer s H E) ⟨⟨K, mg⟩, (["width", "pair", "most", "low"] : List Str).length, B, H⟩ (WD E) (defBody s_double_turned) m_double_turned := by
  have hu := hr.units
  have hu5 := hr.units5
  exact (sse_cons (se_expr (ge_call (G_check_double.k hr (by decide)) rfl (ae_cons (de_keep (v 0)) (ae_cons (de_keep (v 1)) ae_nil)) rfl (hms := (mCons_len (mCons_len mNil_len)))))
    (sse_cons (st 2 (ge_e (ee_op2 ok_sub (ee_op2 ok_shl ee_int (v 0)) ee_int)))
    (sse_cons (st 3 (ge_e (ee_op2 ok_mod (ee_op2 ok_addI (ee_op2 ok_sub (v 2) (ee_ix (v 1) ee_int)) ee_int) (ee_op2 ok_shl ee_int (v 0)))))
    (sse_one (se_ret (ge_e (ee_tup (ae_cons (de_keep (ee_op2 ok_mod (ee_op2 ok_addI (ee_op2 ok_sub (v 2) (ee_ix (v 1) ee_int)) (ee_fz (ge_callTy ok_int rfl Z.z_int (by decide +kernel) (ve_cons (ee_cmp (ok_eq hu) (v 3) ee_int (nomark _)) ve_nil)))) (ee_op2 ok_shl ee_int (v 0)))) (ae_cons (de_keep (v 3)) ae_nil)))))))))
theorem cal_double_turned {P : Program} {w : World} {K : PySem.W.Frag} {mg : Str → Option Value} {base : Heap} (Dx : DefAt K mg "double_turned" s_double_turned ["width", "pair"]) (Z : Zs K mg) (G_check_double : Cal P w K mg base "check_double" 2 F_check_double 6) : Cal P w K mg base "double_turned" 2 F_double_turned 7 :=
  have h : Cal P w K mg base "double_turned" (["width", "pair"] : List Str).length (fnM (["width", "pair", "most", "low"] : List Str).length m_double_turned) (6 + 1) := cal_of Dx sc_double_turned (by decide) (k := 6) (m := m_double_turned) fun f fd cdv A outer s H B E hr nd => body_double_turned Z G_check_double f cdv A outer s H B E hr nd
  h
abbrev s_check_steps : Stmt := topS 25
theorem sc_check_steps : FnScope ["width", "steps"] ["width", "steps"] (defScope s_check_steps) := ⟨rfl, rfl, rfl, by decide +kernel, rfl, by decide +kernel, by decide +kernel⟩
def m_check_steps : MoS :=
  (mIfS (mNot (mTest (mFz (mCall F_is_within (mCons (mKeep (mVar 1)) (mCons (mKeep (mC (.int 0))) (mCons (mKeep (mOp2 (iC mulC fun i j => i * j) (mC (.int 2)) (mVar 0))) mNil)))))))
    mBad
    mSkip)
def F_check_steps : Fm := fnM 2 m_check_steps
theorem body_check_steps {P : Program} {w : World} {K : PySem.W.Frag} {mg : Str → Option Value} {base : Heap} (Z : Zs K mg) (G_is_within : Cal P w K mg base "is_within" 3 F_is_within 2) (f : Addr) (cdv : Value) (A : Around) (outer : List Env) (s : Shared) (H : Hp) (B : Bs) (E : XK) (hr : L2.Room 2 (A.deeper (envOfC "check_steps" (defScope s_check_steps) s.heap.objs.size f cdv))) (nd : Fact' (["width", "steps"] : List Str).Nodup) :
    SSE (cxD P w K mg base ["width", "steps"] "check_steps" (defScope s_check_steps) f cdv A outer s H E) ⟨⟨K, mg⟩, (["width", "steps"] : List Str).length, B, H⟩ (WD E) (defBody s_check_steps) m_check_steps := by
  have hu := hr.units
  have hu5 := hr.units5
  exact (sse_one (se_if (te_not (te_val (ee_fz (ge_call (G_is_within.k hr (by decide)) rfl (ae_cons (de_keep (v 1)) (ae_cons (de_keep ee_int) (ae_cons (de_keep (ee_op2 ok_mulI ee_int (v 0))) ae_nil))) rfl (hms := (mCons_len (mCons_len (mCons_len mNil_len))))))))
    (sse_one se_bad)
    sse_nil))
theorem cal_check_steps {P : Program} {w : World} {K : PySem.W.Frag} {mg : Str → Option Value} {base : Heap} (Dx : DefAt K mg "check_steps" s_check_steps ["width", "steps"]) (Z : Zs K mg) (G_is_within : Cal P w K mg base "is_within" 3 F_is_within 2) : Cal P w K mg base "check_steps" 2 F_check_steps 3 :=
  have h : Cal P w K mg base "check_steps" (["width", "steps"] : List Str).length (fnM (["width", "steps"] : List Str).length m_check_steps) (2 + 1) := cal_of Dx sc_check_steps (by decide) (k := 2) (m := m_check_steps) fun f fd cdv A outer s H B E hr nd => body_check_steps Z G_is_within f cdv A outer s H B E hr nd
  h
abbrev s_double_up : Stmt := topS 23
theorem sc_double_up : FnScope ["width", "pair", "steps"] ["width", "pair", "steps"] (defScope s_double_up) := ⟨rfl, rfl, rfl, by decide +kernel, rfl, by decide +kernel, by decide +kernel⟩
def m_double_up : MoS :=
  (mSeq (mDrop (mCall F_check_double (mCons (mKeep (mVar 0)) (mCons (mKeep (mVar 1)) mNil))))
    (mSeq (mDrop (mCall F_check_steps (mCons (mKeep (mVar 0)) (mCons (mKeep (mVar 2)) mNil))))
    (mRet (mCall F_split (mCons (mKeep (mVar 0)) (mCons (mKeep (mOp2 (iC shlC fun i j => i * 2 ^ j.toNat) (mOp2 (iI Builtin.bitOr) (mOp2 (iC shlC fun i j => i * 2 ^ j.toNat) (mOp2 fIx (mVar 1) (mC (.int 0))) (mVar 0)) (mOp2 fIx (mVar 1) (mC (.int 1)))) (mVar 2))) mNil))))))
def F_double_up : Fm := fnM 3 m_double_up
theorem body_double_up {P : Program} {w : World} {K : PySem.W.Frag} {mg : Str → Option Value} {base : Heap} (Z : Zs K mg) (G_split : Cal P w K mg base "split" 2 F_split 1) (G_check_steps : Cal P w K mg base "check_steps" 2 F_check_steps 3) (G_check_double : Cal P w K mg base "check_double" 2 F_check_double 6) (f : Addr) (cdv : Value) (A : Around) (outer : List Env) (s : Shared) (H : Hp) (B : Bs) (E : XK) (hr : L2.Room 6 (A.deeper (envOfC "double_up" (defScope s_double_up) s.heap.objs.size f cdv))) (nd : Fact' (["width", "pair", "steps"] : List Str).Nodup) :
    SSE (cxD P w K mg base ["width", "pair", "steps"] "double_up" (defScope s_double_up) f cdv A outer s H E) ⟨⟨K, mg⟩, (["width", "pair", "steps"] : List Str).length, B, H⟩ (WD E) (defBody s_double_up) m_double_up := by
  have hu := hr.units
  have hu5 := hr.units5
  exact (sse_cons (se_expr (ge_call (G_check_double.k hr (by decide)) rfl (ae_cons (de_keep (v 0)) (ae_cons (de_keep (v 1)) ae_nil)) rfl (hms := (mCons_len (mCons_len mNil_len)))))
    (sse_cons (se_expr (ge_call (G_check_steps.k hr (by decide)) rfl (ae_cons (de_keep (v 0)) (ae_cons (de_keep (v 2)) ae_nil)) rfl (hms := (mCons_len (mCons_len mNil_len)))))
    (sse_one (se_ret (ge_call (G_split.k hr (by decide)) rfl (ae_cons (de_keep (v 0)) (ae_cons (de_keep (ee_op2 ok_shl (ee_op2 ok_or (ee_op2 ok_shl (ee_ix (v 1) ee_int) (v 0)) (ee_ix (v 1) ee_int)) (v 2))) ae_nil)) rfl (hms := (mCons_len (mCons_len mNil_len))))))))
theorem cal_double_up {P : Program} {w : World} {K : PySem.W.Frag} {mg : Str → Option Value} {base : Heap} (Dx : DefAt K mg "double_up" s_double_up ["width", "pair", "steps"]) (Z : Zs K mg) (G_split : Cal P w K mg base "split" 2 F_split 1) (G_check_steps : Cal P w K mg base "check_steps" 2 F_check_steps 3) (G_check_double : Cal P w K mg base "check_double" 2 F_check_double 6) : Cal P w K mg base "double_up" 3 F_double_up 7 :=
  have h : Cal P w K mg base "double_up" (["width", "pair", "steps"] : List Str).length (fnM (["width", "pair", "steps"] : List Str).length m_double_up) (6 + 1) := cal_of Dx sc_double_up (by decide) (k := 6) (m := m_double_up) fun f fd cdv A outer s H B E hr nd => body_double_up Z G_split G_check_steps G_check_double f cdv A outer s H B E hr nd
  h
abbrev s_double_down : Stmt := topS 24
theorem sc_double_down : FnScope ["width", "pair", "steps"] ["width", "pair", "steps"] (defScope s_double_down) := ⟨rfl, rfl, rfl, by decide +kernel, rfl, by decide +kernel, by decide +kernel⟩
def m_double_down : MoS :=
  (mSeq (mDrop (mCall F_check_double (mCons (mKeep (mVar 0)) (mCons (mKeep (mVar 1)) mNil))))
    (mSeq (mDrop (mCall F_check_steps (mCons (mKeep (mVar 0)) (mCons (mKeep (mVar 2)) mNil))))
    (mRet (mCall F_split (mCons (mKeep (mVar 0)) (mCons (mKeep (mOp2 (iC (fun _ j => decide (0 ≤ j)) fun i j => i / 2 ^ j.toNat) (mOp2 (iI Builtin.bitOr) (mOp2 (iC shlC fun i j => i * 2 ^ j.toNat) (mOp2 fIx (mVar 1) (mC (.int 0))) (mVar 0)) (mOp2 fIx (mVar 1) (mC (.int 1)))) (mVar 2))) mNil))))))
def F_double_down : Fm := fnM 3 m_double_down
theorem body_double_down {P : Program} {w : World} {K : PySem.W.Frag} {mg : Str → Option Value} {base : Heap} (Z : Zs K mg) (G_split : Cal P w K mg base "split" 2 F_split 1) (G_check_steps : Cal P w K mg base "check_steps" 2 F_check_steps 3) (G_check_double : Cal P w K mg base "check_double" 2 F_check_double 6) (f : Addr) (cdv : Value) (A : Around) (outer : List Env) (s : Shared) (H : Hp) (B : Bs) (E : XK) (hr : L2.Room 6 (A.deeper (envOfC "double_down" (defScope s_double_down) s.heap.objs.size f cdv))) (nd : Fact' (["width", "pair", "steps"] : List Str).Nodup) :
    SSE (cxD P w K mg base ["width", "pair", "steps"] "double_down" (defScope s_double_down) f cdv A outer s H E) ⟨⟨K, mg⟩, (["width", "pair", "steps"] : List Str).length, B, H⟩ (WD E) (defBody s_double_down) m_double_down := by
  have hu := hr.units
  have hu5 := hr.units5
  exact (sse_cons (se_expr (ge_call (G_check_double.k hr (by decide)) rfl (ae_cons (de_keep (v 0)) (ae_cons (de_keep (v 1)) ae_nil)) rfl (hms := (mCons_len (mCons_len mNil_len)))))
    (sse_cons (se_expr (ge_call (G_check_steps.k hr (by decide)) rfl (ae_cons (de_keep (v 0)) (ae_cons (de_keep (v 2)) ae_nil)) rfl (hms := (mCons_len (mCons_len mNil_len)))))
    (sse_one (se_ret (ge_call (G_split.k hr (by decide)) rfl (ae_cons (de_keep (v 0)) (ae_cons (de_keep (ee_op2 ok_shr (ee_op2 ok_or (ee_op2 ok_shl (ee_ix (v 1) ee_int) (v 0)) (ee_ix (v 1) ee_int)) (v 2))) ae_nil)) rfl (hms := (mCons_len (mCons_len mNil_len))))))))
theorem cal_double_down {P : Program} {w : World} {K : PySem.W.Frag} {mg : Str → Option Value} {base : Heap} (Dx : DefAt K mg "double_down" s_double_down ["width", "pair", "steps"]) (Z : Zs K mg) (G_split : Cal P w K mg base "split" 2 F_split 1) (G_check_steps : Cal P w K mg base "check_steps" 2 F_check_steps 3) (G_check_double : Cal P w K mg base "check_double" 2 F_check_double 6) : Cal P w K mg base "double_down" 3 F_double_down 7 :=
  have h : Cal P w K mg base "double_down" (["width", "pair", "steps"] : List Str).length (fnM (["width", "pair", "steps"] : List Str).length m_double_down) (6 + 1) := cal_of Dx sc_double_down (by decide) (k := 6) (m := m_double_down) fun f fd cdv A outer s H B E hr nd => body_double_down Z G_split G_check_steps G_check_double f cdv A outer s H B E hr nd
  h
abbrev s_double_compared : Stmt := topS 26
theorem sc_double_compared : FnScope ["reading", "width", "one", "other", "first", "second", "top"] ["reading", "width", "one", "other"] (defScope s_double_compared) := ⟨rfl, rfl, rfl, by decide +kernel, rfl, by decide +kernel, by decide +kernel⟩
def m_double_compared : MoS :=
  (mSeq (mIfS (mOr (mNot (mTest (mIsi .str (mVar 0)))) (mTest (mOp2 (fIn true) (mVar 0) (mTup (mCons (mKeep (mC (.str "plain"))) (mCons (mKeep (mC (.str "two"))) mNil))))))
    mBad
    mSkip)
    (mSeq (mDrop (mCall F_check_double (mCons (mKeep (mVar 1)) (mCons (mKeep (mVar 2)) mNil))))
    (mSeq (mDrop (mCall F_check_double (mCons (mKeep (mVar 1)) (mCons (mKeep (mVar 3)) mNil))))
    (mSeq (mPar2 4 5 (mPv (mX (mOp2 fIx (mVar 2) (mC (.int 0))))) (mPv (mX (mOp2 fIx (mVar 3) (mC (.int 0))))))
    (mSeq (mIfS (mTest (mOp2 fEq (mVar 0) (mC (.str "two"))))
    (mSeq (mSet 6 (mX (mOp2 (iC shlC fun i j => i * 2 ^ j.toNat) (mC (.int 1)) (mOp2 (iI fun i j => i - j) (mVar 1) (mC (.int 1))))))
    (mPar2 4 5 (mPv (mX (mOp2 (iI Builtin.bitXor) (mVar 4) (mVar 6)))) (mPv (mX (mOp2 (iI Builtin.bitXor) (mVar 5) (mVar 6))))))
    mSkip)
    (mSeq (mIfS (mTest (mOp2 fNe (mVar 4) (mVar 5)))
    (mRet (mX (mIf (mTest (mOp2 (iB fun i j => decide (i < j)) (mVar 4) (mVar 5))) (mOp1 (i1 fun i => -i) (mC (.int 1))) (mC (.int 1)))))
    mSkip)
    (mRet (mX (mIf (mTest (mOp2 fEq (mOp2 fIx (mVar 2) (mC (.int 1))) (mOp2 fIx (mVar 3) (mC (.int 1))))) (mC (.int 0)) (mIf (mTest (mOp2 (iB fun i j => decide (i < j)) (mOp2 fIx (mVar 2) (mC (.int 1))) (mOp2 fIx (mVar 3) (mC (.int 1))))) (mOp1 (i1 fun i => -i) (mC (.int 1))) (mC (.int 1))))))))))))
def F_double_compared : Fm := fnM 7 m_double_compared
theorem body_double_compared {P : Program} {w : World} {K : PySem.W.Frag} {mg : Str → Option Value} {base : Heap} (Z : Zs K mg) (G_check_double : Cal P w K mg base "check_double" 2 F_check_double 6) (f : Addr) (cdv : Value) (A : Around) (outer : List Env) (s : Shared) (H : Hp) (B : Bs) (E : XK) (hr : L2.Room 6 (A.deeper (envOfC "double_compared" (defScope s_double_compared) s.heap.objs.size f cdv))) (nd : Fact' (["reading", "width", "one", "other", "first", "second", "top"] : List Str).Nodup) :
    SSE (cxD P w K mg base ["reading", "width", "one", "other", "first", "second", "top"] "double_compared" (defScope s_double_compared) f cdv A outer s H E) ⟨⟨K, mg⟩, (["reading", "width", "one", "other", "first", "second", "top"] : List Str).length, B, H⟩ (WD E) (defBody s_double_compared) m_double_compared := by
  have hu := hr.units
  have hu5 := hr.units5
  exact (sse_cons (se_if (te_w (we_or (te_not (te_val (ee_isi .str (by decide) rfl Z.z_isinstance (by decide +kernel) (v 0) rfl Z.z_str (by decide +kernel)))) (we_or1 (te_cmp (ok_notin hu5) (v 0) (ee_tup (ae_cons (de_keep ee_str) (ae_cons (de_keep ee_str) ae_nil))) (by rfl)))))
    (sse_one se_bad)
    sse_nil)
    (sse_cons (se_expr (ge_call (G_check_double.k hr (by decide)) rfl (ae_cons (de_keep (v 1)) (ae_cons (de_keep (v 2)) ae_nil)) rfl (hms := (mCons_len (mCons_len mNil_len)))))
    (sse_cons (se_expr (ge_call (G_check_double.k hr (by decide)) rfl (ae_cons (de_keep (v 1)) (ae_cons (de_keep (v 3)) ae_nil)) rfl (hms := (mCons_len (mCons_len mNil_len)))))
    (sse_cons (se_par2 4 5 rfl rfl (by decide) rfl rfl (xe_of (ge_e (ee_ix (v 2) ee_int))) (xe_of (ge_e (ee_ix (v 3) ee_int))))
    (sse_cons (se_if (te_cmp (ok_eq hu) (v 0) ee_str (nomark _))
    (sse_cons (st 6 (ge_e (ee_op2 ok_shl ee_int (ee_op2 ok_sub (v 1) ee_int))))
    (sse_one (se_par2 4 5 rfl rfl (by decide) rfl rfl (xe_of (ge_e (ee_op2 ok_xor (v 4) (v 6)))) (xe_of (ge_e (ee_op2 ok_xor (v 5) (v 6)))))))
    sse_nil)
    (sse_cons (se_if (te_cmp (ok_ne hu) (v 4) (v 5) (nomark _))
    (sse_one (se_ret (ge_e (ee_if (te_cmp ok_lt (v 4) (v 5) (nomark _)) (ee_op1 ok_neg ee_int) ee_int))))
    sse_nil)
    (sse_one (se_ret (ge_e (ee_if (te_cmp (ok_eq hu) (ee_ix (v 2) ee_int) (ee_ix (v 3) ee_int) (nomark _)) ee_int (ee_if (te_cmp ok_lt (ee_ix (v 2) ee_int) (ee_ix (v 3) ee_int) (nomark _)) (ee_op1 ok_neg ee_int) ee_int)))))))))))
theorem cal_double_compared {P : Program} {w : World} {K : PySem.W.Frag} {mg : Str → Option Value} {base : Heap} (Dx : DefAt K mg "double_compared" s_double_compared ["reading", "width", "one", "other"]) (Z : Zs K mg) (G_check_double : Cal P w K mg base "check_double" 2 F_check_double 6) : Cal P w K mg base "double_compared" 4 F_double_compared 7 :=
  have h : Cal P w K mg base "double_compared" (["reading", "width", "one", "other"] : List Str).length (fnM (["reading", "width", "one", "other", "first", "second", "top"] : List Str).length m_double_compared) (6 + 1) := cal_of Dx sc_double_compared (by decide) (k := 6) (m := m_double_compared) fun f fd cdv A outer s H B E hr nd => body_double_compared Z G_check_double f cdv A outer s H B E hr nd
  h
abbrev s_double_product : Stmt := topS 27
theorem sc_double_product : FnScope ["width", "one", "other", "low", "cross", "high", "is_true"] ["width", "one", "other"] (defScope s_double_product) := ⟨rfl, rfl, rfl, by decide +kernel, rfl, by decide +kernel, by decide +kernel⟩
def m_double_product : MoS :=
  (mSeq (mDrop (mCall F_check_double (mCons (mKeep (mVar 0)) (mCons (mKeep (mVar 1)) mNil))))
    (mSeq (mDrop (mCall F_check_double (mCons (mKeep (mVar 0)) (mCons (mKeep (mVar 2)) mNil))))
    (mSeq (mSet 3 (mX (mOp2 (iC mulC fun i j => i * j) (mOp2 fIx (mVar 1) (mC (.int 1))) (mOp2 fIx (mVar 2) (mC (.int 1))))))
    (mSeq (mSet 4 (mOpG fAdd (mOp2 (iC mulC fun i j => i * j) (mOp2 fIx (mVar 1) (mC (.int 0))) (mOp2 fIx (mVar 2) (mC (.int 1)))) (mOp2 (iC mulC fun i j => i * j) (mOp2 fIx (mVar 1) (mC (.int 1))) (mOp2 fIx (mVar 2) (mC (.int 0))))))
    (mSeq (mSet 5 (mX (mOp2 (iI fun i j => i + j) (mOp2 (iC (fun _ j => decide (0 ≤ j)) fun i j => i / 2 ^ j.toNat) (mVar 3) (mVar 0)) (mVar 4))))
    (mSeq (mSet 6 (mX (mAndV (mOp2 fEq (mOp2 (iC mulC fun i j => i * j) (mOp2 fIx (mVar 1) (mC (.int 0))) (mOp2 fIx (mVar 2) (mC (.int 0)))) (mC (.int 0))) (mOp2 fEq (mOp2 (iC (fun _ j => decide (0 ≤ j)) fun i j => i / 2 ^ j.toNat) (mVar 5) (mVar 0)) (mC (.int 0))))))
    (mRet (mX (mTup (mCons (mKeep (mTup (mCons (mKeep (mOp2 (iC (fun _ j => decide (0 < j)) fun i j => i % j) (mVar 5) (mOp2 (iC shlC fun i j => i * 2 ^ j.toNat) (mC (.int 1)) (mVar 0)))) (mCons (mKeep (mOp2 (iC (fun _ j => decide (0 < j)) fun i j => i % j) (mVar 3) (mOp2 (iC shlC fun i j => i * 2 ^ j.toNat) (mC (.int 1)) (mVar 0)))) mNil)))) (mCons (mKeep (mVar 6)) mNil)))))))))))
def F_double_product : Fm := fnM 7 m_double_product
theorem body_double_product {P : Program} {w : World} {K : PySem.W.Frag} {mg : Str → Option Value} {base : Heap} (Z : Zs K mg) (G_check_double : Cal P w K mg base "check_double" 2 F_check_double 6) (f : Addr) (cdv : Value) (A : Around) (outer : List Env) (s : Shared) (H : Hp) (B : Bs) (E : XK) (hr : L2.Room 6 (A.deeper (envOfC "double_product" (defScope s_double_product) s.heap.objs.size f cdv))) (nd : Fact' (["width", "one", "other", "low", "cross", "high", "is_true"] : List Str).Nodup) :
    SSE (cxD P w K mg base ["width", "one", "other", "low", "cross", "high", "is_true"] "double_product" (defScope s_double_product) f cdv A outer s H E) ⟨⟨K, mg⟩, (["width", "one", "other", "low", "cross", "high", "is_true"] : List Str).length, B, H⟩ (WD E) (defBody s_double_product) m_double_product := by
  have hu := hr.units
  have hu5 := hr.units5
  exact (sse_cons (se_expr (ge_call (G_check_double.k hr (by decide)) rfl (ae_cons (de_keep (v 0)) (ae_cons (de_keep (v 1)) ae_nil)) rfl (hms := (mCons_len (mCons_len mNil_len)))))
    (sse_cons (se_expr (ge_call (G_check_double.k hr (by decide)) rfl (ae_cons (de_keep (v 0)) (ae_cons (de_keep (v 2)) ae_nil)) rfl (hms := (mCons_len (mCons_len mNil_len)))))
    (sse_cons (st 3 (ge_e (ee_op2 ok_mulI (ee_ix (v 1) ee_int) (ee_ix (v 2) ee_int))))
    (sse_cons (st 4 (ge_op2 ok_add (ee_op2 ok_mulI (ee_ix (v 1) ee_int) (ee_ix (v 2) ee_int)) (ee_op2 ok_mulI (ee_ix (v 1) ee_int) (ee_ix (v 2) ee_int))))
    (sse_cons (st 5 (ge_e (ee_op2 ok_addI (ee_op2 ok_shr (v 3) (v 0)) (v 4))))
    (sse_cons (st 6 (ge_e (ee_and (ee_cmp (ok_eq hu) (ee_op2 ok_mulI (ee_ix (v 1) ee_int) (ee_ix (v 2) ee_int)) ee_int (nomark _)) (ee_one (ee_cmp (ok_eq hu) (ee_op2 ok_shr (v 5) (v 0)) ee_int (nomark _))))))
    (sse_one (se_ret (ge_e (ee_tup (ae_cons (de_keep (ee_tup (ae_cons (de_keep (ee_op2 ok_mod (v 5) (ee_op2 ok_shl ee_int (v 0)))) (ae_cons (de_keep (ee_op2 ok_mod (v 3) (ee_op2 ok_shl ee_int (v 0)))) ae_nil)))) (ae_cons (de_keep (v 6)) ae_nil))))))))))))
theorem cal_double_product {P : Program} {w : World} {K : PySem.W.Frag} {mg : Str → Option Value} {base : Heap} (Dx : DefAt K mg "double_product" s_double_product ["width", "one", "other"]) (Z : Zs K mg) (G_check_double : Cal P w K mg base "check_double" 2 F_check_double 6) : Cal P w K mg base "double_product" 3 F_double_product 7 :=
  have h : Cal P w K mg base "double_product" (["width", "one", "other"] : List Str).length (fnM (["width", "one", "other", "low", "cross", "high", "is_true"] : List Str).length m_double_product) (6 + 1) := cal_of Dx sc_double_product (by decide) (k := 6) (m := m_double_product) fun f fd cdv A outer s H B E hr nd => body_double_product Z G_check_double f cdv A outer s H B E hr nd
  h
abbrev s_double_divided : Stmt := topS 28
theorem sc_double_divided : FnScope ["width", "pair", "word", "high", "rest", "low"] ["width", "pair", "word"] (defScope s_double_divided) := ⟨rfl, rfl, rfl, by decide +kernel, rfl, by decide +kernel, by decide +kernel⟩
def m_double_divided : MoS :=
  (mSeq (mDrop (mCall F_check_double (mCons (mKeep (mVar 0)) (mCons (mKeep (mVar 1)) mNil))))
    (mSeq (mDrop (mCall F_check_word (mCons (mKeep (mVar 0)) (mCons (mKeep (mVar 2)) mNil))))
    (mSeq (mIfS (mTest (mOp2 fEq (mVar 2) (mC (.int 0))))
    mBad
    mSkip)
    (mSeq (mPar2 3 4 (mPv (mX (mOp2 (iC divC fun i j => i / j) (mOp2 fIx (mVar 1) (mC (.int 0))) (mVar 2)))) (mPv (mX (mOp2 (iC (fun _ j => decide (0 < j)) fun i j => i % j) (mOp2 fIx (mVar 1) (mC (.int 0))) (mVar 2)))))
    (mSeq (mSet 5 (mX (mOp2 (iI Builtin.bitOr) (mOp2 (iC shlC fun i j => i * 2 ^ j.toNat) (mVar 4) (mVar 0)) (mOp2 fIx (mVar 1) (mC (.int 1))))))
    (mRet (mX (mTup (mCons (mKeep (mTup (mCons (mKeep (mVar 3)) (mCons (mKeep (mOp2 (iC divC fun i j => i / j) (mVar 5) (mVar 2))) mNil)))) (mCons (mKeep (mOp2 (iC (fun _ j => decide (0 < j)) fun i j => i % j) (mVar 5) (mVar 2))) mNil))))))))))
def F_double_divided : Fm := fnM 6 m_double_divided
theorem body_double_divided {P : Program} {w : World} {K : PySem.W.Frag} {mg : Str → Option Value} {base : Heap} (Z : Zs K mg) (G_check_word : Cal P w K mg base "check_word" 2 F_check_word 5) (G_check_double : Cal P w K mg base "check_double" 2 F_check_double 6) (f : Addr) (cdv : Value) (A : Around) (outer : List Env) (s : Shared) (H : Hp) (B : Bs) (E : XK) (hr : L2.Room 6 (A.deeper (envOfC "double_divided" (defScope s_double_divided) s.heap.objs.size f cdv))) (nd : Fact' (["width", "pair", "word", "high", "rest", "low"] : List Str).Nodup) :
    SSE (cxD P w K mg base ["width", "pair", "word", "high", "rest", "low"] "double_divided" (defScope s_double_divided) f cdv A outer s H E) ⟨⟨K, mg⟩, (["width", "pair", "word", "high", "rest", "low"] : List Str).length, B, H⟩ (WD E) (defBody s_double_divided) m_double_divided := by
  have hu := hr.units
  have hu5 := hr.units5
  exact (sse_cons (se_expr (ge_call (G_check_double.k hr (by decide)) rfl (ae_cons (de_keep (v 0)) (ae_cons (de_keep (v 1)) ae_nil)) rfl (hms := (mCons_len (mCons_len mNil_len)))))
    (sse_cons (se_expr (ge_call (G_check_word.k hr (by decide)) rfl (ae_cons (de_keep (v 0)) (ae_cons (de_keep (v 2)) ae_nil)) rfl (hms := (mCons_len (mCons_len mNil_len)))))
    (sse_cons (se_if (te_cmp (ok_eq hu) (v 2) ee_int (nomark _))
    (sse_one se_bad)
    sse_nil)
    (sse_cons (se_par2 3 4 rfl rfl (by decide) rfl rfl (xe_of (ge_e (ee_op2 ok_div (ee_ix (v 1) ee_int) (v 2)))) (xe_of (ge_e (ee_op2 ok_mod (ee_ix (v 1) ee_int) (v 2)))))
    (sse_cons (st 5 (ge_e (ee_op2 ok_or (ee_op2 ok_shl (v 4) (v 0)) (ee_ix (v 1) ee_int))))
    (sse_one (se_ret (ge_e (ee_tup (ae_cons (de_keep (ee_tup (ae_cons (de_keep (v 3)) (ae_cons (de_keep (ee_op2 ok_div (v 5) (v 2))) ae_nil)))) (ae_cons (de_keep (ee_op2 ok_mod (v 5) (v 2))) ae_nil)))))))))))
theorem cal_double_divided {P : Program} {w : World} {K : PySem.W.Frag} {mg : Str → Option Value} {base : Heap} (Dx : DefAt K mg "double_divided" s_double_divided ["width", "pair", "word"]) (Z : Zs K mg) (G_check_word : Cal P w K mg base "check_word" 2 F_check_word 5) (G_check_double : Cal P w K mg base "check_double" 2 F_check_double 6) : Cal P w K mg base "double_divided" 3 F_double_divided 7 :=
  have h : Cal P w K mg base "double_divided" (["width", "pair", "word"] : List Str).length (fnM (["width", "pair", "word", "high", "rest", "low"] : List Str).length m_double_divided) (6 + 1) := cal_of Dx sc_double_divided (by decide) (k := 6) (m := m_double_divided) fun f fd cdv A outer s H B E hr nd => body_double_divided Z G_check_word G_check_double f cdv A outer s H B E hr nd
  h
abbrev s_length_of : Stmt := topS 30
theorem sc_length_of : FnScope ["number", "found"] ["number"] (defScope s_length_of) := ⟨rfl, rfl, rfl, by decide +kernel, rfl, by decide +kernel, by decide +kernel⟩
def m_length_of : MoS :=
  (mSeq (mSet 1 (mX (mC (.int 0))))
    (mSeq (mWhile (mTest (mOp2 (iB fun i j => decide (j < i)) (mOp2 (iC (fun _ j => decide (0 ≤ j)) fun i j => i / 2 ^ j.toNat) (mVar 0) (mVar 1)) (mC (.int 0))))
    (mSet 1 (mX (mOp2 (iI fun i j => i + j) (mVar 1) (mC (.int 1))))) [])
    (mRet (mX (mVar 1)))))
def F_length_of : Fm := fnM 2 m_length_of
theorem body_length_of {P : Program} {w : World} {K : PySem.W.Frag} {mg : Str → Option Value} {base : Heap} (Z : Zs K mg)  (f : Addr) (cdv : Value) (A : Around) (outer : List Env) (s : Shared) (H : Hp) (B : Bs) (E : XK) (hr : L2.Room 0 (A.deeper (envOfC "length_of" (defScope s_length_of) s.heap.objs.size f cdv))) (nd : Fact' (["number", "found"] : List Str).Nodup) :
    SSE (cxD P w K mg base ["number", "found"] "length_of" (defScope s_length_of) f cdv A outer s H E) ⟨⟨K, mg⟩, (["number", "found"] : List Str).length, B, H⟩ (WD E) (defBody s_length_of) m_length_of := by
  have hu := hr.units
  have hu5 := hr.units5
  exact (sse_cons (st 1 (ge_e ee_int))
    (sse_cons (se_while [] (te_cmp ok_gt (ee_op2 ok_shr (v 0) (v 1)) ee_int (nomark _))
    (sse_one (st 1 (ge_e (ee_op2 ok_addI (v 1) ee_int)))))
    (sse_one (se_ret (ge_e (v 1))))))
theorem cal_length_of {P : Program} {w : World} {K : PySem.W.Frag} {mg : Str → Option Value} {base : Heap} (Dx : DefAt K mg "length_of" s_length_of ["number"]) (Z : Zs K mg)  : Cal P w K mg base "length_of" 1 F_length_of 1 :=
  have h : Cal P w K mg base "length_of" (["number"] : List Str).length (fnM (["number", "found"] : List Str).length m_length_of) (0 + 1) := cal_of Dx sc_length_of (by decide) (k := 0) (m := m_length_of) fun f fd cdv A outer s H B E hr nd => body_length_of Z  f cdv A outer s H B E hr nd
  h
abbrev s_double_places : Stmt := topS 29
theorem sc_double_places : FnScope ["width", "pair", "first", "last"] ["width", "pair"] (defScope s_double_places) := ⟨rfl, rfl, rfl, by decide +kernel, rfl, by decide +kernel, by decide +kernel⟩
def m_double_places : MoS :=
  (mSeq (mDrop (mCall F_check_double (mCons (mKeep (mVar 0)) (mCons (mKeep (mVar 1)) mNil))))
    (mSeq (mIfS (mTest (mOp2 fEq (mVar 1) (mTup (mCons (mKeep (mC (.int 0))) (mCons (mKeep (mC (.int 0))) mNil)))))
    (mRet (mX (mTup (mCons (mKeep (mOp1 (i1 fun i => -i) (mC (.int 1)))) (mCons (mKeep (mOp2 (iC mulC fun i j => i * j) (mC (.int 2)) (mVar 0))) mNil)))))
    mSkip)
    (mSeq (mSet 2 (mX (mIf (mTest (mOp2 (iB fun i j => decide (j < i)) (mOp2 fIx (mVar 1) (mC (.int 0))) (mC (.int 0)))) (mTup (mCons (mKeep (mOp2 fIx (mVar 1) (mC (.int 0)))) (mCons (mKeep (mVar 0)) mNil))) (mTup (mCons (mKeep (mOp2 fIx (mVar 1) (mC (.int 1)))) (mCons (mKeep (mC (.int 0))) mNil))))))
    (mSeq (mSet 3 (mX (mIf (mTest (mOp2 (iB fun i j => decide (j < i)) (mOp2 fIx (mVar 1) (mC (.int 1))) (mC (.int 0)))) (mTup (mCons (mKeep (mOp2 fIx (mVar 1) (mC (.int 1)))) (mCons (mKeep (mC (.int 0))) mNil))) (mTup (mCons (mKeep (mOp2 fIx (mVar 1) (mC (.int 0)))) (mCons (mKeep (mVar 0)) mNil))))))
    (mRet (mX (mTup (mCons (mKeep (mOp2 (iI fun i j => i + j) (mOp2 (iI fun i j => i - j) (mFz (mCall F_length_of (mCons (mKeep (mOp2 fIx (mVar 2) (mC (.int 0)))) mNil))) (mC (.int 1))) (mOp2 fIx (mVar 2) (mC (.int 1))))) (mCons (mKeep (mOp2 (iI fun i j => i + j) (mOp2 (iI fun i j => i - j) (mFz (mCall F_length_of (mCons (mKeep (mOp2 (iI Builtin.bitAnd) (mOp2 fIx (mVar 3) (mC (.int 0))) (mOp1 (i1 fun i => -i) (mOp2 fIx (mVar 3) (mC (.int 0)))))) mNil))) (mC (.int 1))) (mOp2 fIx (mVar 3) (mC (.int 1))))) mNil)))))))))
def F_double_places : Fm := fnM 4 m_double_places
theorem body_double_places {P : Program} {w : World} {K : PySem.W.Frag} {mg : Str → Option Value} {base : Heap} (Z : Zs K mg) (G_length_of : Cal P w K mg base "length_of" 1 F_length_of 1) (G_check_double : Cal P w K mg base "check_double" 2 F_check_double 6) (f : Addr) (cdv : Value) (A : Around) (outer : List Env) (s : Shared) (H : Hp) (B : Bs) (E : XK) (hr : L2.Room 6 (A.deeper (envOfC "double_places" (defScope s_double_places) s.heap.objs.size f cdv))) (nd : Fact' (["width", "pair", "first", "last"] : List Str).Nodup) :
    SSE (cxD P w K mg base ["width", "pair", "first", "last"] "double_places" (defScope s_double_places) f cdv A outer s H E) ⟨⟨K, mg⟩, (["width", "pair", "first", "last"] : List Str).length, B, H⟩ (WD E) (defBody s_double_places) m_double_places := by
  have hu := hr.units
  have hu5 := hr.units5
  exact (sse_cons (se_expr (ge_call (G_check_double.k hr (by decide)) rfl (ae_cons (de_keep (v 0)) (ae_cons (de_keep (v 1)) ae_nil)) rfl (hms := (mCons_len (mCons_len mNil_len)))))
    (sse_cons (se_if (te_cmp (ok_eq hu) (v 1) (ee_tup (ae_cons (de_keep ee_int) (ae_cons (de_keep ee_int) ae_nil))) (nomark _))
    (sse_one (se_ret (ge_e (ee_tup (ae_cons (de_keep (ee_op1 ok_neg ee_int)) (ae_cons (de_keep (ee_op2 ok_mulI ee_int (v 0))) ae_nil))))))
    sse_nil)
    (sse_cons (st 2 (ge_e (ee_if (te_cmp ok_gt (ee_ix (v 1) ee_int) ee_int (nomark _)) (ee_tup (ae_cons (de_keep (ee_ix (v 1) ee_int)) (ae_cons (de_keep (v 0)) ae_nil))) (ee_tup (ae_cons (de_keep (ee_ix (v 1) ee_int)) (ae_cons (de_keep ee_int) ae_nil))))))
    (sse_cons (st 3 (ge_e (ee_if (te_cmp ok_gt (ee_ix (v 1) ee_int) ee_int (nomark _)) (ee_tup (ae_cons (de_keep (ee_ix (v 1) ee_int)) (ae_cons (de_keep ee_int) ae_nil))) (ee_tup (ae_cons (de_keep (ee_ix (v 1) ee_int)) (ae_cons (de_keep (v 0)) ae_nil))))))
    (sse_one (se_ret (ge_e (ee_tup (ae_cons (de_keep (ee_op2 ok_addI (ee_op2 ok_sub (ee_fz (ge_call (G_length_of.k hr (by decide)) rfl (ae_cons (de_keep (ee_ix (v 2) ee_int)) ae_nil) rfl (hms := (mCons_len mNil_len)))) ee_int) (ee_ix (v 2) ee_int))) (ae_cons (de_keep (ee_op2 ok_addI (ee_op2 ok_sub (ee_fz (ge_call (G_length_of.k hr (by decide)) rfl (ae_cons (de_keep (ee_op2 ok_and (ee_ix (v 3) ee_int) (ee_op1 ok_neg (ee_ix (v 3) ee_int)))) ae_nil) rfl (hms := (mCons_len mNil_len)))) ee_int) (ee_ix (v 3) ee_int))) ae_nil))))))))))
theorem cal_double_places {P : Program} {w : World} {K : PySem.W.Frag} {mg : Str → Option Value} {base : Heap} (Dx : DefAt K mg "double_places" s_double_places ["width", "pair"]) (Z : Zs K mg) (G_length_of : Cal P w K mg base "length_of" 1 F_length_of 1) (G_check_double : Cal P w K mg base "check_double" 2 F_check_double 6) : Cal P w K mg base "double_places" 2 F_double_places 7 :=
  have h : Cal P w K mg base "double_places" (["width", "pair"] : List Str).length (fnM (["width", "pair", "first", "last"] : List Str).length m_double_places) (6 + 1) := cal_of Dx sc_double_places (by decide) (k := 6) (m := m_double_places) fun f fd cdv A outer s H B E hr nd => body_double_places Z G_length_of G_check_double f cdv A outer s H B E hr nd
  h
abbrev s_double_root : Stmt := topS 31
theorem sc_double_root : FnScope ["width", "pair", "number", "found", "place", "more"] ["width", "pair"] (defScope s_double_root) := ⟨rfl, rfl, rfl, by decide +kernel, rfl, by decide +kernel, by decide +kernel⟩
def m_double_root : MoS :=
  (mSeq (mDrop (mCall F_check_double (mCons (mKeep (mVar 0)) (mCons (mKeep (mVar 1)) mNil))))
    (mSeq (mPar2 2 3 (mPv (mX (mOp2 (iI Builtin.bitOr) (mOp2 (iC shlC fun i j => i * 2 ^ j.toNat) (mOp2 fIx (mVar 1) (mC (.int 0))) (mVar 0)) (mOp2 fIx (mVar 1) (mC (.int 1)))))) (mPv (mX (mC (.int 0)))))
    (mSeq (mFor (mRg3 (mCons (mKeep (mOp2 (iI fun i j => i - j) (mVar 0) (mC (.int 1)))) (mCons (mKeep (mOp1 (i1 fun i => -i) (mC (.int 1)))) (mCons (mKeep (mOp1 (i1 fun i => -i) (mC (.int 1)))) mNil)))) (gN 4)
    (mSeq (mSet 5 (mX (mOp2 (iI Builtin.bitOr) (mVar 3) (mOp2 (iC shlC fun i j => i * 2 ^ j.toNat) (mC (.int 1)) (mVar 4)))))
    (mIfS (mTest (mOp2 (iB fun i j => decide (i ≤ j)) (mOp2 (iC mulC fun i j => i * j) (mVar 5) (mVar 5)) (mVar 2)))
    (mSet 3 (mX (mVar 5)))
    mSkip)) [4, 5])
    (mRet (mX (mTup (mCons (mKeep (mVar 3)) (mCons (mKeepX (mCall F_split (mCons (mKeep (mVar 0)) (mCons (mKeep (mOp2 (iI fun i j => i - j) (mVar 2) (mOp2 (iC mulC fun i j => i * j) (mVar 3) (mVar 3)))) mNil)))) mNil))))))))
def F_double_root : Fm := fnM 6 m_double_root
theorem body_double_root {P : Program} {w : World} {K : PySem.W.Frag} {mg : Str → Option Value} {base : Heap} (Z : Zs K mg) (G_split : Cal P w K mg base "split" 2 F_split 1) (G_check_double : Cal P w K mg base "check_double" 2 F_check_double 6) (f : Addr) (cdv : Value) (A : Around) (outer : List Env) (s : Shared) (H : Hp) (B : Bs) (E : XK) (hr : L2.Room 6 (A.deeper (envOfC "double_root" (defScope s_double_root) s.heap.objs.size f cdv))) (nd : Fact' (["width", "pair", "number", "found", "place", "more"] : List Str).Nodup) :
    SSE (cxD P w K mg base ["width", "pair", "number", "found", "place", "more"] "double_root" (defScope s_double_root) f cdv A outer s H E) ⟨⟨K, mg⟩, (["width", "pair", "number", "found", "place", "more"] : List Str).length, B, H⟩ (WD E) (defBody s_double_root) m_double_root := by
  have hu := hr.units
  have hu5 := hr.units5
  exact (sse_cons (se_expr (ge_call (G_check_double.k hr (by decide)) rfl (ae_cons (de_keep (v 0)) (ae_cons (de_keep (v 1)) ae_nil)) rfl (hms := (mCons_len (mCons_len mNil_len)))))
    (sse_cons (se_par2 2 3 rfl rfl (by decide) rfl rfl (xe_of (ge_e (ee_op2 ok_or (ee_op2 ok_shl (ee_ix (v 1) ee_int) (v 0)) (ee_ix (v 1) ee_int)))) (xe_of (ge_e ee_int)))
    (sse_cons (se_for (vs := [4]) [4, 5] (ie_range3 rfl Z.z_range (ae_cons (de_keep (ee_op2 ok_sub (v 0) ee_int)) (ae_cons (de_keep (ee_op1 ok_neg ee_int)) (ae_cons (de_keep (ee_op1 ok_neg ee_int)) ae_nil)))) (tn 4)
    (sse_cons (st 5 (ge_e (ee_op2 ok_or (v 3) (ee_op2 ok_shl ee_int (v 4)))))
    (sse_one (se_if (te_cmp ok_le (ee_op2 ok_mulI (v 5) (v 5)) (v 2) (nomark _))
    (sse_one (st 3 (ge_e (v 5))))
    sse_nil))))
    (sse_one (se_ret (ge_e (ee_tup (ae_cons (de_keep (v 3)) (ae_cons (de_keepX (ge_call (G_split.k hr (by decide)) rfl (ae_cons (de_keep (v 0)) (ae_cons (de_keep (ee_op2 ok_sub (v 2) (ee_op2 ok_mulI (v 3) (v 3)))) ae_nil)) rfl (hms := (mCons_len (mCons_len mNil_len))))) ae_nil)))))))))
theorem cal_double_root {P : Program} {w : World} {K : PySem.W.Frag} {mg : Str → Option Value} {base : Heap} (Dx : DefAt K mg "double_root" s_double_root ["width", "pair"]) (Z : Zs K mg) (G_split : Cal P w K mg base "split" 2 F_split 1) (G_check_double : Cal P w K mg base "check_double" 2 F_check_double 6) : Cal P w K mg base "double_root" 2 F_double_root 7 :=
  have h : Cal P w K mg base "double_root" (["width", "pair"] : List Str).length (fnM (["width", "pair", "number", "found", "place", "more"] : List Str).length m_double_root) (6 + 1) := cal_of Dx sc_double_root (by decide) (k := 6) (m := m_double_root) fun f fd cdv A outer s H B E hr nd => body_double_root Z G_split G_check_double f cdv A outer s H B E hr nd
  h
abbrev s_same_double : Stmt := topS 32
theorem sc_same_double : FnScope ["reading", "width", "pair", "word"] ["reading", "width", "pair", "word"] (defScope s_same_double) := ⟨rfl, rfl, rfl, by decide +kernel, rfl, by decide +kernel, by decide +kernel⟩
def m_same_double : MoS :=
  (mSeq (mIfS (mOr (mNot (mTest (mIsi .str (mVar 0)))) (mTest (mOp2 (fIn true) (mVar 0) (mTup (mCons (mKeep (mC (.str "plain"))) (mCons (mKeep (mC (.str "two"))) mNil))))))
    mBad
    mSkip)
    (mSeq (mDrop (mCall F_check_double (mCons (mKeep (mVar 1)) (mCons (mKeep (mVar 2)) mNil))))
    (mSeq (mDrop (mCall F_check_word (mCons (mKeep (mVar 1)) (mCons (mKeep (mVar 3)) mNil))))
    (mSeq (mIfS (mTest (mOp2 fNe (mOp2 fIx (mVar 2) (mC (.int 1))) (mVar 3)))
    (mRet (mX (mC (.bl false))))
    mSkip)
    (mSeq (mIfS (mOr (mTest (mOp2 fEq (mVar 0) (mC (.str "plain")))) (mTest (mOp2 fEq (mOp2 (iC (fun _ j => decide (0 ≤ j)) fun i j => i / 2 ^ j.toNat) (mVar 3) (mOp2 (iI fun i j => i - j) (mVar 1) (mC (.int 1)))) (mC (.int 0)))))
    (mRet (mX (mOp2 fEq (mOp2 fIx (mVar 2) (mC (.int 0))) (mC (.int 0)))))
    mSkip)
    (mRet (mX (mOp2 fEq (mOp2 fIx (mVar 2) (mC (.int 0))) (mOp2 (iI fun i j => i - j) (mOp2 (iC shlC fun i j => i * 2 ^ j.toNat) (mC (.int 1)) (mVar 1)) (mC (.int 1)))))))))))
def F_same_double : Fm := fnM 4 m_same_double
theorem body_same_double {P : Program} {w : World} {K : PySem.W.Frag} {mg : Str → Option Value} {base : Heap} (Z : Zs K mg) (G_check_word : Cal P w K mg base "check_word" 2 F_check_word 5) (G_check_double : Cal P w K mg base "check_double" 2 F_check_double 6) (f : Addr) (cdv : Value) (A : Around) (outer : List Env) (s : Shared) (H : Hp) (B : Bs) (E : XK) (hr : L2.Room 6 (A.deeper (envOfC "same_double" (defScope s_same_double) s.heap.objs.size f cdv))) (nd : Fact' (["reading", "width", "pair", "word"] : List Str).Nodup) :
    SSE (cxD P w K mg base ["reading", "width", "pair", "word"] "same_double" (defScope s_same_double) f cdv A outer s H E) ⟨⟨K, mg⟩, (["reading", "width", "pair", "word"] : List Str).length, B, H⟩ (WD E) (defBody s_same_double) m_same_double := by
  have hu := hr.units
  have hu5 := hr.units5
  exact (sse_cons (se_if (te_w (we_or (te_not (te_val (ee_isi .str (by decide) rfl Z.z_isinstance (by decide +kernel) (v 0) rfl Z.z_str (by decide +kernel)))) (we_or1 (te_cmp (ok_notin hu5) (v 0) (ee_tup (ae_cons (de_keep ee_str) (ae_cons (de_keep ee_str) ae_nil))) (by rfl)))))
    (sse_one se_bad)
    sse_nil)
    (sse_cons (se_expr (ge_call (G_check_double.k hr (by decide)) rfl (ae_cons (de_keep (v 1)) (ae_cons (de_keep (v 2)) ae_nil)) rfl (hms := (mCons_len (mCons_len mNil_len)))))
    (sse_cons (se_expr (ge_call (G_check_word.k hr (by decide)) rfl (ae_cons (de_keep (v 1)) (ae_cons (de_keep (v 3)) ae_nil)) rfl (hms := (mCons_len (mCons_len mNil_len)))))
    (sse_cons (se_if (te_cmp (ok_ne hu) (ee_ix (v 2) ee_int) (v 3) (nomark _))
    (sse_one (se_ret (ge_e ee_bl)))
    sse_nil)
    (sse_cons (se_if (te_w (we_or (te_cmp (ok_eq hu) (v 0) ee_str (nomark _)) (we_or1 (te_cmp (ok_eq hu) (ee_op2 ok_shr (v 3) (ee_op2 ok_sub (v 1) ee_int)) ee_int (nomark _)))))
    (sse_one (se_ret (ge_e (ee_cmp (ok_eq hu) (ee_ix (v 2) ee_int) ee_int (nomark _)))))
    sse_nil)
    (sse_one (se_ret (ge_e (ee_cmp (ok_eq hu) (ee_ix (v 2) ee_int) (ee_op2 ok_sub (ee_op2 ok_shl ee_int (v 1)) ee_int) (nomark _))))))))))
theorem cal_same_double {P : Program} {w : World} {K : PySem.W.Frag} {mg : Str → Option Value} {base : Heap} (Dx : DefAt K mg "same_double" s_same_double ["reading", "width", "pair", "word"]) (Z : Zs K mg) (G_check_word : Cal P w K mg base "check_word" 2 F_check_word 5) (G_check_double : Cal P w K mg base "check_double" 2 F_check_double 6) : Cal P w K mg base "same_double" 4 F_same_double 7 :=
  have h : Cal P w K mg base "same_double" (["reading", "width", "pair", "word"] : List Str).length (fnM (["reading", "width", "pair", "word"] : List Str).length m_same_double) (6 + 1) := cal_of Dx sc_same_double (by decide) (k := 6) (m := m_same_double) fun f fd cdv A outer s H B E hr nd => body_same_double Z G_check_word G_check_double f cdv A outer s H B E hr nd
  h
abbrev s__law_hand : Stmt := topS 34
theorem sc__law_hand : FnScope ["script", "cells", "cell"] ["script"] (defScope s__law_hand) := ⟨rfl, rfl, rfl, by decide +kernel, rfl, by decide +kernel, by decide +kernel⟩
def m__law_hand : MoS :=
  (mSeq (mSet 1 (mLc (mIt (mKeepX (mSl (mVar 0) mNoPart (mPart (mC (.int 63)))))) (gN 2) mYes (mKeepX (mCB fAbs (vCons (mFz (mCB fInt (vCons (mVar 2) vNil))) vNil))) [2]))
    (mRet (mLst (mCons (mKeep (mVar 1)) (mCons (mKeep (mC (.int 0))) (mCons (mKeep (mC (.int 0))) (mCons (mKeep (mOp2 (iI fun i j => i + j) (mC (.int 2153)) (mOp2 (iC mulC fun i j => i * j) (mC (.int 193)) (mFz (mCB fLen (vCons (mVar 1) vNil)))))) (mCons (mKeep (mC (.int 0))) mNil))))))))
def F__law_hand : Fm := fnM 3 m__law_hand
theorem body__law_hand {P : Program} {w : World} {K : PySem.W.Frag} {mg : Str → Option Value} {base : Heap} (Z : Zs K mg)  (f : Addr) (cdv : Value) (A : Around) (outer : List Env) (s : Shared) (H : Hp) (B : Bs) (E : XK) (hr : L2.Room 0 (A.deeper (envOfC "_law_hand" (defScope s__law_hand) s.heap.objs.size f cdv))) (nd : Fact' (["script", "cells", "cell"] : List Str).Nodup) :
    SSE (cxD P w K mg base ["script", "cells", "cell"] "_law_hand" (defScope s__law_hand) f cdv A outer s H E) ⟨⟨K, mg⟩, (["script", "cells", "cell"] : List Str).length, B, H⟩ (WD E) (defBody s__law_hand) m__law_hand := by
  have hu := hr.units
  have hu5 := hr.units5
  exact (sse_cons (se_setLc 1 (own := [("cell", 2)]) rfl rfl (sw_true rfl rfl rfl (by decide +kernel)) (ie_seq (de_keepX (ge_sl (v 0) oe_none (oe_some ee_int)))) (blkOk_by (by kernel_rfl)) (fun _ _ _ _ _ => (tn 2)) (fun _ _ _ _ _ => tt_nil) (fun _ _ _ _ _ => (de_keepX (ge_callB ok_abs rfl Z.z_abs (by decide +kernel) (ve_cons (ee_fz (ge_callTy ok_int rfl Z.z_int (by decide +kernel) (ve_cons (v 2) ve_nil))) ve_nil)))))
    (sse_one (se_ret (ge_lst (ae_cons (de_keep (v 1)) (ae_cons (de_keep ee_int) (ae_cons (de_keep ee_int) (ae_cons (de_keep (ee_op2 ok_addI ee_int (ee_op2 ok_mulI ee_int (ee_fz (ge_callB ok_len rfl Z.z_len (by decide +kernel) (ve_cons (v 1) ve_nil)))))) (ae_cons (de_keep ee_int) ae_nil)))))))))
theorem cal__law_hand {P : Program} {w : World} {K : PySem.W.Frag} {mg : Str → Option Value} {base : Heap} (Dx : DefAt K mg "_law_hand" s__law_hand ["script"]) (Z : Zs K mg)  : Cal P w K mg base "_law_hand" 1 F__law_hand 1 :=
  have h : Cal P w K mg base "_law_hand" (["script"] : List Str).length (fnM (["script", "cells", "cell"] : List Str).length m__law_hand) (0 + 1) := cal_of Dx sc__law_hand (by decide) (k := 0) (m := m__law_hand) fun f fd cdv A outer s H B E hr nd => body__law_hand Z  f cdv A outer s H B E hr nd
  h
abbrev s__law_draw : Stmt := topS 35
theorem sc__law_draw : FnScope ["hand", "many", "cell", "digit", "number"] ["hand", "many"] (defScope s__law_draw) := ⟨rfl, rfl, rfl, by decide +kernel, rfl, by decide +kernel, by decide +kernel⟩
def m__law_draw : MoS :=
  (mSeq (mIfS (mAnd (mTest (mOp2 fEq (mOp2 fIx (mVar 0) (mC (.int 2))) (mC (.int 0)))) (mTest (mOp2 (iB fun i j => decide (i < j)) (mOp2 fIx (mVar 0) (mC (.int 1))) (mFz (mCB fLen (vCons (mOp2 fIx (mVar 0) (mC (.int 0))) vNil))))))
    (mSeq (mSet 2 (mX (mOp2 fIx (mOp2 fIx (mVar 0) (mC (.int 0))) (mOp2 fIx (mVar 0) (mC (.int 1))))))
    (mSeq (mSetIx (mKeep (mOp2 (iI fun i j => i + j) (mOp2 fIx (mVar 0) (mC (.int 1))) (mC (.int 1)))) (mVar 0) (mC (.int 1)))
    (mSeq (mSetIx (mKeep (mOp2 (iC (fun _ j => decide (0 < j)) fun i j => i % j) (mFz (mCB fInt (vCons (mOp2 (iI fun i j => i + j) (mFz (mOpG fAdd (mOp2 (iC mulC fun i j => i * j) (mOp2 fIx (mVar 0) (mC (.int 3))) (mC (.int 48271))) (mOp2 (iC mulC fun i j => i * j) (mVar 2) (mC (.int 5))))) (mC (.int 29))) vNil))) (mC (.int 2147483587)))) (mVar 0) (mC (.int 3)))
    (mSetIx (mKeep (mIf (mTest (mOp2 (iB fun i j => decide (j ≤ i)) (mVar 2) (mOp2 (iC powC fun i j => i ^ j.toNat) (mC (.int 10)) (mC (.int 18))))) (mVar 2) (mC (.int 0)))) (mVar 0) (mC (.int 2))))))
    mSkip)
    (mSeq (mIfS (mTest (mOp2 (iB fun i j => decide (j < i)) (mOp2 fIx (mVar 0) (mC (.int 2))) (mC (.int 0))))
    (mSeq (mSet 3 (mX (mOp2 (iC (fun _ j => decide (0 < j)) fun i j => i % j) (mFz (mCB fInt (vCons (mOp2 fIx (mVar 0) (mC (.int 2))) vNil))) (mVar 1))))
    (mSeq (mSetIx (mKeep (mOp2 (iC divC fun i j => i / j) (mOp2 fIx (mVar 0) (mC (.int 2))) (mVar 1))) (mVar 0) (mC (.int 2)))
    (mRet (mX (mVar 3)))))
    mSkip)
    (mSeq (mSetIx (mKeep (mOp2 (iI fun i j => i + j) (mOp2 fIx (mVar 0) (mC (.int 4))) (mC (.int 1)))) (mVar 0) (mC (.int 4)))
    (mSeq (mSet 4 (mX (mOp2 (iC (fun _ j => decide (0 < j)) fun i j => i % j) (mFz (mCB fInt (vCons (mOp2 (iC mulC fun i j => i * j) (mFz (mCB fInt (vCons (mFz (mOpG fAdd (mOp2 fIx (mVar 0) (mC (.int 3))) (mOp2 (iC mulC fun i j => i * j) (mC (.int 7877)) (mOp2 fIx (mVar 0) (mC (.int 4)))))) vNil))) (mC (.int 69621))) vNil))) (mC (.int 2147483647)))))
    (mSeq (mSet 4 (mX (mOp2 (iC (fun _ j => decide (0 < j)) fun i j => i % j) (mFz (mCB fInt (vCons (mOp2 (iC mulC fun i j => i * j) (mVar 4) (mOp2 (iI fun i j => i + j) (mOp2 (iC divC fun i j => i / j) (mVar 4) (mC (.int 1103))) (mC (.int 40692)))) vNil))) (mC (.int 2147483399)))))
    (mSeq (mSet 4 (mX (mOp2 (iC (fun _ j => decide (0 < j)) fun i j => i % j) (mFz (mCB fInt (vCons (mOp2 (iC mulC fun i j => i * j) (mVar 4) (mOp2 (iI fun i j => i + j) (mOp2 (iC divC fun i j => i / j) (mVar 4) (mC (.int 2311))) (mC (.int 48271)))) vNil))) (mC (.int 2147483629)))))
    (mRet (mX (mOp2 (iC (fun _ j => decide (0 < j)) fun i j => i % j) (mFz (mCB fInt (vCons (mOp2 (iC divC fun i j => i / j) (mVar 4) (mC (.int 16))) vNil))) (mVar 1))))))))))
def F__law_draw : Fm := fnM 5 m__law_draw
theorem body__law_draw {P : Program} {w : World} {K : PySem.W.Frag} {mg : Str → Option Value} {base : Heap} (Z : Zs K mg)  (f : Addr) (cdv : Value) (A : Around) (outer : List Env) (s : Shared) (H : Hp) (B : Bs) (E : XK) (hr : L2.Room 0 (A.deeper (envOfC "_law_draw" (defScope s__law_draw) s.heap.objs.size f cdv))) (nd : Fact' (["hand", "many", "cell", "digit", "number"] : List Str).Nodup) :
    SSE (cxD P w K mg base ["hand", "many", "cell", "digit", "number"] "_law_draw" (defScope s__law_draw) f cdv A outer s H E) ⟨⟨K, mg⟩, (["hand", "many", "cell", "digit", "number"] : List Str).length, B, H⟩ (WD E) (defBody s__law_draw) m__law_draw := by
  have hu := hr.units
  have hu5 := hr.units5
  exact (sse_cons (se_if (te_w (we_and (te_cmp (ok_eq hu) (ee_ix (v 0) ee_int) ee_int (nomark _)) (we_and1 (te_cmp ok_lt (ee_ix (v 0) ee_int) (ee_fz (ge_callB ok_len rfl Z.z_len (by decide +kernel) (ve_cons (ee_ix (v 0) ee_int) ve_nil))) (nomark _)))))
    (sse_cons (st 2 (ge_e (ee_ix (ee_ix (v 0) ee_int) (ee_ix (v 0) ee_int))))
    (sse_cons (se_setIx (de_keep (ee_op2 ok_addI (ee_ix (v 0) ee_int) ee_int)) (v 0) ee_int)
    (sse_cons (se_setIx (de_keep (ee_op2 ok_mod (ee_fz (ge_callTy ok_int rfl Z.z_int (by decide +kernel) (ve_cons (ee_op2 ok_addI (ee_fz (ge_op2 ok_add (ee_op2 ok_mulI (ee_ix (v 0) ee_int) ee_int) (ee_op2 ok_mulI (v 2) ee_int))) ee_int) ve_nil))) ee_int)) (v 0) ee_int)
    (sse_one (se_setIx (de_keep (ee_if (te_cmp ok_ge (v 2) (ee_op2 ok_pow ee_int ee_int) (nomark _)) (v 2) ee_int)) (v 0) ee_int)))))
    sse_nil)
    (sse_cons (se_if (te_cmp ok_gt (ee_ix (v 0) ee_int) ee_int (nomark _))
    (sse_cons (st 3 (ge_e (ee_op2 ok_mod (ee_fz (ge_callTy ok_int rfl Z.z_int (by decide +kernel) (ve_cons (ee_ix (v 0) ee_int) ve_nil))) (v 1))))
    (sse_cons (se_setIx (de_keep (ee_op2 ok_div (ee_ix (v 0) ee_int) (v 1))) (v 0) ee_int)
    (sse_one (se_ret (ge_e (v 3))))))
    sse_nil)
    (sse_cons (se_setIx (de_keep (ee_op2 ok_addI (ee_ix (v 0) ee_int) ee_int)) (v 0) ee_int)
    (sse_cons (st 4 (ge_e (ee_op2 ok_mod (ee_fz (ge_callTy ok_int rfl Z.z_int (by decide +kernel) (ve_cons (ee_op2 ok_mulI (ee_fz (ge_callTy ok_int rfl Z.z_int (by decide +kernel) (ve_cons (ee_fz (ge_op2 ok_add (ee_ix (v 0) ee_int) (ee_op2 ok_mulI ee_int (ee_ix (v 0) ee_int)))) ve_nil))) ee_int) ve_nil))) ee_int)))
    (sse_cons (st 4 (ge_e (ee_op2 ok_mod (ee_fz (ge_callTy ok_int rfl Z.z_int (by decide +kernel) (ve_cons (ee_op2 ok_mulI (v 4) (ee_op2 ok_addI (ee_op2 ok_div (v 4) ee_int) ee_int)) ve_nil))) ee_int)))
    (sse_cons (st 4 (ge_e (ee_op2 ok_mod (ee_fz (ge_callTy ok_int rfl Z.z_int (by decide +kernel) (ve_cons (ee_op2 ok_mulI (v 4) (ee_op2 ok_addI (ee_op2 ok_div (v 4) ee_int) ee_int)) ve_nil))) ee_int)))
    (sse_one (se_ret (ge_e (ee_op2 ok_mod (ee_fz (ge_callTy ok_int rfl Z.z_int (by decide +kernel) (ve_cons (ee_op2 ok_div (v 4) ee_int) ve_nil))) (v 1)))))))))))
theorem cal__law_draw {P : Program} {w : World} {K : PySem.W.Frag} {mg : Str → Option Value} {base : Heap} (Dx : DefAt K mg "_law_draw" s__law_draw ["hand", "many"]) (Z : Zs K mg)  : Cal P w K mg base "_law_draw" 2 F__law_draw 1 :=
  have h : Cal P w K mg base "_law_draw" (["hand", "many"] : List Str).length (fnM (["hand", "many", "cell", "digit", "number"] : List Str).length m__law_draw) (0 + 1) := cal_of Dx sc__law_draw (by decide) (k := 0) (m := m__law_draw) fun f fd cdv A outer s H B E hr nd => body__law_draw Z  f cdv A outer s H B E hr nd
  h
abbrev s__law_some : Stmt := topS 36
theorem sc__law_some : FnScope ["hand", "things"] ["hand", "things"] (defScope s__law_some) := ⟨rfl, rfl, rfl, by decide +kernel, rfl, by decide +kernel, by decide +kernel⟩
def m__law_some : MoS :=
  (mRet (mX (mOp2 fIx (mVar 1) (mFz (mCall F__law_draw (mCons (mKeep (mVar 0)) (mCons (mKeepX (mCB fLen (vCons (mVar 1) vNil))) mNil)))))))
def F__law_some : Fm := fnM 2 m__law_some
theorem body__law_some {P : Program} {w : World} {K : PySem.W.Frag} {mg : Str → Option Value} {base : Heap} (Z : Zs K mg) (G__law_draw : Cal P w K mg base "_law_draw" 2 F__law_draw 1) (f : Addr) (cdv : Value) (A : Around) (outer : List Env) (s : Shared) (H : Hp) (B : Bs) (E : XK) (hr : L2.Room 1 (A.deeper (envOfC "_law_some" (defScope s__law_some) s.heap.objs.size f cdv))) (nd : Fact' (["hand", "things"] : List Str).Nodup) :
    SSE (cxD P w K mg base ["hand", "things"] "_law_some" (defScope s__law_some) f cdv A outer s H E) ⟨⟨K, mg⟩, (["hand", "things"] : List Str).length, B, H⟩ (WD E) (defBody s__law_some) m__law_some := by
  have hu := hr.units
  have hu5 := hr.units5
  exact (sse_one (se_ret (ge_e (ee_ix (v 1) (ee_fz (ge_call (G__law_draw.k hr (by decide)) rfl (ae_cons (de_keep (v 0)) (ae_cons (de_keepX (ge_callB ok_len rfl Z.z_len (by decide +kernel) (ve_cons (v 1) ve_nil))) ae_nil)) rfl (hms := (mCons_len (mCons_len mNil_len)))))))))
theorem cal__law_some {P : Program} {w : World} {K : PySem.W.Frag} {mg : Str → Option Value} {base : Heap} (Dx : DefAt K mg "_law_some" s__law_some ["hand", "things"]) (Z : Zs K mg) (G__law_draw : Cal P w K mg base "_law_draw" 2 F__law_draw 1) : Cal P w K mg base "_law_some" 2 F__law_some 2 :=
  have h : Cal P w K mg base "_law_some" (["hand", "things"] : List Str).length (fnM (["hand", "things"] : List Str).length m__law_some) (1 + 1) := cal_of Dx sc__law_some (by decide) (k := 1) (m := m__law_some) fun f fd cdv A outer s H B E hr nd => body__law_some Z G__law_draw f cdv A outer s H B E hr nd
  h
abbrev s__law_power : Stmt := topS 37
theorem sc__law_power : FnScope ["many", "found", "turn"] ["many"] (defScope s__law_power) := ⟨rfl, rfl, rfl, by decide +kernel, rfl, by decide +kernel, by decide +kernel⟩
def m__law_power : MoS :=
  (mSeq (mSet 1 (mX (mC (.int 1))))
    (mSeq (mFor (mRg1 (mCons (mKeep (mVar 0)) mNil)) (gN 2)
    (mSet 1 (mX (mOp2 (iC mulC fun i j => i * j) (mC (.int 2)) (mVar 1)))) [2])
    (mRet (mX (mVar 1)))))
def F__law_power : Fm := fnM 3 m__law_power
theorem body__law_power {P : Program} {w : World} {K : PySem.W.Frag} {mg : Str → Option Value} {base : Heap} (Z : Zs K mg)  (f : Addr) (cdv : Value) (A : Around) (outer : List Env) (s : Shared) (H : Hp) (B : Bs) (E : XK) (hr : L2.Room 0 (A.deeper (envOfC "_law_power" (defScope s__law_power) s.heap.objs.size f cdv))) (nd : Fact' (["many", "found", "turn"] : List Str).Nodup) :
    SSE (cxD P w K mg base ["many", "found", "turn"] "_law_power" (defScope s__law_power) f cdv A outer s H E) ⟨⟨K, mg⟩, (["many", "found", "turn"] : List Str).length, B, H⟩ (WD E) (defBody s__law_power) m__law_power := by
  have hu := hr.units
  have hu5 := hr.units5
  exact (sse_cons (st 1 (ge_e ee_int))
    (sse_cons (se_for (vs := [2]) [2] (ie_range1 rfl Z.z_range (ae_cons (de_keep (v 0)) ae_nil)) (tn 2)
    (sse_one (st 1 (ge_e (ee_op2 ok_mulI ee_int (v 1))))))
    (sse_one (se_ret (ge_e (v 1))))))
theorem cal__law_power {P : Program} {w : World} {K : PySem.W.Frag} {mg : Str → Option Value} {base : Heap} (Dx : DefAt K mg "_law_power" s__law_power ["many"]) (Z : Zs K mg)  : Cal P w K mg base "_law_power" 1 F__law_power 1 :=
  have h : Cal P w K mg base "_law_power" (["many"] : List Str).length (fnM (["many", "found", "turn"] : List Str).length m__law_power) (0 + 1) := cal_of Dx sc__law_power (by decide) (k := 0) (m := m__law_power) fun f fd cdv A outer s H B E hr nd => body__law_power Z  f cdv A outer s H B E hr nd
  h
abbrev s__law_word : Stmt := topS 38
theorem sc__law_word : FnScope ["hand", "width", "ring", "near", "one"] ["hand", "width"] (defScope s__law_word) := ⟨rfl, rfl, rfl, by decide +kernel, rfl, by decide +kernel, by decide +kernel⟩
def m__law_word : MoS :=
  (mSeq (mSet 2 (mCall F__law_power (mCons (mKeep (mVar 1)) mNil)))
    (mSeq (mSet 3 (mLst (mCons (mKeep (mC (.int 0))) (mCons (mKeep (mOp2 (iI fun i j => i - j) (mVar 2) (mC (.int 1)))) (mCons (mKeep (mOp2 (iC divC fun i j => i / j) (mVar 2) (mC (.int 2)))) (mCons (mKeep (mOp2 (iC divC fun i j => i / j) (mOp2 (iI fun i j => i - j) (mVar 2) (mC (.int 1))) (mC (.int 2)))) (mCons (mKeep (mC (.int 1))) mNil)))))))
    (mSeq (mIfS (mTest (mOp2 fEq (mFz (mCall F__law_draw (mCons (mKeep (mVar 0)) (mCons (mKeep (mC (.int 3))) mNil)))) (mC (.int 0))))
    (mRet (mCall F__law_some (mCons (mKeep (mVar 0)) (mCons (mKeepX (mLc (mIt (mKeep (mVar 3))) (gN 4) (mTest (mOp2 (iB fun i j => decide (i < j)) (mVar 4) (mVar 2))) (mKeep (mVar 4)) [4])) mNil))))
    mSkip)
    (mRet (mX (mOp2 (iC (fun _ j => decide (0 < j)) fun i j => i % j) (mFz (mCB fInt (vCons (mOp2 (iI fun i j => i + j) (mOp2 (iC mulC fun i j => i * j) (mFz (mCall F__law_draw (mCons (mKeep (mVar 0)) (mCons (mKeep (mOp2 (iC powC fun i j => i ^ j.toNat) (mC (.int 2)) (mC (.int 32)))) mNil)))) (mFz (mCall F__law_draw (mCons (mKeep (mVar 0)) (mCons (mKeep (mOp2 (iC powC fun i j => i ^ j.toNat) (mC (.int 2)) (mC (.int 31)))) mNil))))) (mFz (mCall F__law_draw (mCons (mKeep (mVar 0)) (mCons (mKeep (mOp2 (iC powC fun i j => i ^ j.toNat) (mC (.int 2)) (mC (.int 32)))) mNil))))) vNil))) (mVar 2)))))))
def F__law_word : Fm := fnM 5 m__law_word
theorem body__law_word {P : Program} {w : World} {K : PySem.W.Frag} {mg : Str → Option Value} {base : Heap} (Z : Zs K mg) (G__law_draw : Cal P w K mg base "_law_draw" 2 F__law_draw 1) (G__law_some : Cal P w K mg base "_law_some" 2 F__law_some 2) (G__law_power : Cal P w K mg base "_law_power" 1 F__law_power 1) (f : Addr) (cdv : Value) (A : Around) (outer : List Env) (s : Shared) (H : Hp) (B : Bs) (E : XK) (hr : L2.Room 2 (A.deeper (envOfC "_law_word" (defScope s__law_word) s.heap.objs.size f cdv))) (nd : Fact' (["hand", "width", "ring", "near", "one"] : List Str).Nodup) :
    SSE (cxD P w K mg base ["hand", "width", "ring", "near", "one"] "_law_word" (defScope s__law_word) f cdv A outer s H E) ⟨⟨K, mg⟩, (["hand", "width", "ring", "near", "one"] : List Str).length, B, H⟩ (WD E) (defBody s__law_word) m__law_word := by
  have hu := hr.units
  have hu5 := hr.units5
  exact (sse_cons (st 2 (ge_call (G__law_power.k hr (by decide)) rfl (ae_cons (de_keep (v 1)) ae_nil) rfl (hms := (mCons_len mNil_len))))
    (sse_cons (st 3 (ge_lst (ae_cons (de_keep ee_int) (ae_cons (de_keep (ee_op2 ok_sub (v 2) ee_int)) (ae_cons (de_keep (ee_op2 ok_div (v 2) ee_int)) (ae_cons (de_keep (ee_op2 ok_div (ee_op2 ok_sub (v 2) ee_int) ee_int)) (ae_cons (de_keep ee_int) ae_nil)))))))
    (sse_cons (se_if (te_cmp (ok_eq hu) (ee_fz (ge_call (G__law_draw.k hr (by decide)) rfl (ae_cons (de_keep (v 0)) (ae_cons (de_keep ee_int) ae_nil)) rfl (hms := (mCons_len (mCons_len mNil_len))))) ee_int (nomark _))
    (sse_one (se_ret (ge_call (G__law_some.k hr (by decide)) rfl (ae_cons (de_keep (v 0)) (ae_cons (de_keepX (ge_lc (own := [("one", 4)]) (ie_seq (de_keep (v 3))) (blkOk_by (by kernel_rfl)) (fun _ _ _ _ _ => (tn 4)) (fun _ _ _ _ _ => (tt_one (te_cmp ok_lt (v 4) (v 2) (nomark _)))) (fun _ _ _ _ _ => (de_keep (v 4))))) ae_nil)) rfl (hms := (mCons_len (mCons_len mNil_len))))))
    sse_nil)
    (sse_one (se_ret (ge_e (ee_op2 ok_mod (ee_fz (ge_callTy ok_int rfl Z.z_int (by decide +kernel) (ve_cons (ee_op2 ok_addI (ee_op2 ok_mulI (ee_fz (ge_call (G__law_draw.k hr (by decide)) rfl (ae_cons (de_keep (v 0)) (ae_cons (de_keep (ee_op2 ok_pow ee_int ee_int)) ae_nil)) rfl (hms := (mCons_len (mCons_len mNil_len))))) (ee_fz (ge_call (G__law_draw.k hr (by decide)) rfl (ae_cons (de_keep (v 0)) (ae_cons (de_keep (ee_op2 ok_pow ee_int ee_int)) ae_nil)) rfl (hms := (mCons_len (mCons_len mNil_len)))))) (ee_fz (ge_call (G__law_draw.k hr (by decide)) rfl (ae_cons (de_keep (v 0)) (ae_cons (de_keep (ee_op2 ok_pow ee_int ee_int)) ae_nil)) rfl (hms := (mCons_len (mCons_len mNil_len)))))) ve_nil))) (v 2))))))))
theorem cal__law_word {P : Program} {w : World} {K : PySem.W.Frag} {mg : Str → Option Value} {base : Heap} (Dx : DefAt K mg "_law_word" s__law_word ["hand", "width"]) (Z : Zs K mg) (G__law_draw : Cal P w K mg base "_law_draw" 2 F__law_draw 1) (G__law_some : Cal P w K mg base "_law_some" 2 F__law_some 2) (G__law_power : Cal P w K mg base "_law_power" 1 F__law_power 1) : Cal P w K mg base "_law_word" 2 F__law_word 3 :=
  have h : Cal P w K mg base "_law_word" (["hand", "width"] : List Str).length (fnM (["hand", "width", "ring", "near", "one"] : List Str).length m__law_word) (2 + 1) := cal_of Dx sc__law_word (by decide) (k := 2) (m := m__law_word) fun f fd cdv A outer s H B E hr nd => body__law_word Z G__law_draw G__law_some G__law_power f cdv A outer s H B E hr nd
  h
abbrev s__law_width : Stmt := topS 39
theorem sc__law_width : FnScope ["hand"] ["hand"] (defScope s__law_width) := ⟨rfl, rfl, rfl, by decide +kernel, rfl, by decide +kernel, by decide +kernel⟩
def m__law_width : MoS :=
  (mRet (mCall F__law_some (mCons (mKeep (mVar 0)) (mCons (mKeepX (mLst (mCons (mKeep (mC (.int 1))) (mCons (mKeep (mC (.int 2))) (mCons (mKeep (mC (.int 3))) (mCons (mKeep (mC (.int 4))) (mCons (mKeep (mC (.int 7))) (mCons (mKeep (mC (.int 8))) (mCons (mKeep (mC (.int 13))) (mCons (mKeep (mC (.int 16))) (mCons (mKeep (mC (.int 32))) (mCons (mKeep (mC (.int 63))) (mCons (mKeep (mC (.int 64))) mNil))))))))))))) mNil))))
def F__law_width : Fm := fnM 1 m__law_width
theorem body__law_width {P : Program} {w : World} {K : PySem.W.Frag} {mg : Str → Option Value} {base : Heap} (Z : Zs K mg) (G__law_some : Cal P w K mg base "_law_some" 2 F__law_some 2) (f : Addr) (cdv : Value) (A : Around) (outer : List Env) (s : Shared) (H : Hp) (B : Bs) (E : XK) (hr : L2.Room 2 (A.deeper (envOfC "_law_width" (defScope s__law_width) s.heap.objs.size f cdv))) (nd : Fact' (["hand"] : List Str).Nodup) :
    SSE (cxD P w K mg base ["hand"] "_law_width" (defScope s__law_width) f cdv A outer s H E) ⟨⟨K, mg⟩, (["hand"] : List Str).length, B, H⟩ (WD E) (defBody s__law_width) m__law_width := by
  have hu := hr.units
  have hu5 := hr.units5
  exact (sse_one (se_ret (ge_call (G__law_some.k hr (by decide)) rfl (ae_cons (de_keep (v 0)) (ae_cons (de_keepX (ge_lst (ae_cons (de_keep ee_int) (ae_cons (de_keep ee_int) (ae_cons (de_keep ee_int) (ae_cons (de_keep ee_int) (ae_cons (de_keep ee_int) (ae_cons (de_keep ee_int) (ae_cons (de_keep ee_int) (ae_cons (de_keep ee_int) (ae_cons (de_keep ee_int) (ae_cons (de_keep ee_int) (ae_cons (de_keep ee_int) ae_nil))))))))))))) ae_nil)) rfl (hms := (mCons_len (mCons_len mNil_len))))))
theorem cal__law_width {P : Program} {w : World} {K : PySem.W.Frag} {mg : Str → Option Value} {base : Heap} (Dx : DefAt K mg "_law_width" s__law_width ["hand"]) (Z : Zs K mg) (G__law_some : Cal P w K mg base "_law_some" 2 F__law_some 2) : Cal P w K mg base "_law_width" 1 F__law_width 3 :=
  have h : Cal P w K mg base "_law_width" (["hand"] : List Str).length (fnM (["hand"] : List Str).length m__law_width) (2 + 1) := cal_of Dx sc__law_width (by decide) (k := 2) (m := m__law_width) fun f fd cdv A outer s H B E hr nd => body__law_width Z G__law_some f cdv A outer s H B E hr nd
  h
abbrev s__law_two : Stmt := topS 40
theorem sc__law_two : FnScope ["width", "word", "ring"] ["width", "word"] (defScope s__law_two) := ⟨rfl, rfl, rfl, by decide +kernel, rfl, by decide +kernel, by decide +kernel⟩
def m__law_two : MoS :=
  (mSeq (mSet 2 (mCall F__law_power (mCons (mKeep (mVar 0)) mNil)))
    (mRet (mX (mIf (mTest (mOp2 (iB fun i j => decide (j ≤ i)) (mOp2 (iC mulC fun i j => i * j) (mC (.int 2)) (mVar 1)) (mVar 2))) (mOp2 (iI fun i j => i - j) (mVar 1) (mVar 2)) (mVar 1)))))
def F__law_two : Fm := fnM 3 m__law_two
theorem body__law_two {P : Program} {w : World} {K : PySem.W.Frag} {mg : Str → Option Value} {base : Heap} (Z : Zs K mg) (G__law_power : Cal P w K mg base "_law_power" 1 F__law_power 1) (f : Addr) (cdv : Value) (A : Around) (outer : List Env) (s : Shared) (H : Hp) (B : Bs) (E : XK) (hr : L2.Room 1 (A.deeper (envOfC "_law_two" (defScope s__law_two) s.heap.objs.size f cdv))) (nd : Fact' (["width", "word", "ring"] : List Str).Nodup) :
    SSE (cxD P w K mg base ["width", "word", "ring"] "_law_two" (defScope s__law_two) f cdv A outer s H E) ⟨⟨K, mg⟩, (["width", "word", "ring"] : List Str).length, B, H⟩ (WD E) (defBody s__law_two) m__law_two := by
  have hu := hr.units
  have hu5 := hr.units5
  exact (sse_cons (st 2 (ge_call (G__law_power.k hr (by decide)) rfl (ae_cons (de_keep (v 0)) ae_nil) rfl (hms := (mCons_len mNil_len))))
    (sse_one (se_ret (ge_e (ee_if (te_cmp ok_ge (ee_op2 ok_mulI ee_int (v 1)) (v 2) (nomark _)) (ee_op2 ok_sub (v 1) (v 2)) (v 1))))))
theorem cal__law_two {P : Program} {w : World} {K : PySem.W.Frag} {mg : Str → Option Value} {base : Heap} (Dx : DefAt K mg "_law_two" s__law_two ["width", "word"]) (Z : Zs K mg) (G__law_power : Cal P w K mg base "_law_power" 1 F__law_power 1) : Cal P w K mg base "_law_two" 2 F__law_two 2 :=
  have h : Cal P w K mg base "_law_two" (["width", "word"] : List Str).length (fnM (["width", "word", "ring"] : List Str).length m__law_two) (1 + 1) := cal_of Dx sc__law_two (by decide) (k := 1) (m := m__law_two) fun f fd cdv A outer s H B E hr nd => body__law_two Z G__law_power f cdv A outer s H B E hr nd
  h
abbrev s__law_pair : Stmt := topS 41
theorem sc__law_pair : FnScope ["width", "number"] ["width", "number"] (defScope s__law_pair) := ⟨rfl, rfl, rfl, by decide +kernel, rfl, by decide +kernel, by decide +kernel⟩
def m__law_pair : MoS :=
  (mSeq (mSet 1 (mX (mOp2 (iC (fun _ j => decide (0 < j)) fun i j => i % j) (mFz (mCB fInt (vCons (mVar 1) vNil))) (mFz (mCall F__law_power (mCons (mKeep (mOp2 (iC mulC fun i j => i * j) (mC (.int 2)) (mVar 0))) mNil))))))
    (mRet (mX (mTup (mCons (mKeep (mOp2 (iC divC fun i j => i / j) (mVar 1) (mFz (mCall F__law_power (mCons (mKeep (mVar 0)) mNil))))) (mCons (mKeep (mOp2 (iC (fun _ j => decide (0 < j)) fun i j => i % j) (mFz (mCB fInt (vCons (mVar 1) vNil))) (mFz (mCall F__law_power (mCons (mKeep (mVar 0)) mNil))))) mNil))))))
def F__law_pair : Fm := fnM 2 m__law_pair
theorem body__law_pair {P : Program} {w : World} {K : PySem.W.Frag} {mg : Str → Option Value} {base : Heap} (Z : Zs K mg) (G__law_power : Cal P w K mg base "_law_power" 1 F__law_power 1) (f : Addr) (cdv : Value) (A : Around) (outer : List Env) (s : Shared) (H : Hp) (B : Bs) (E : XK) (hr : L2.Room 1 (A.deeper (envOfC "_law_pair" (defScope s__law_pair) s.heap.objs.size f cdv))) (nd : Fact' (["width", "number"] : List Str).Nodup) :
    SSE (cxD P w K mg base ["width", "number"] "_law_pair" (defScope s__law_pair) f cdv A outer s H E) ⟨⟨K, mg⟩, (["width", "number"] : List Str).length, B, H⟩ (WD E) (defBody s__law_pair) m__law_pair := by
  have hu := hr.units
  have hu5 := hr.units5
  exact (sse_cons (st 1 (ge_e (ee_op2 ok_mod (ee_fz (ge_callTy ok_int rfl Z.z_int (by decide +kernel) (ve_cons (v 1) ve_nil))) (ee_fz (ge_call (G__law_power.k hr (by decide)) rfl (ae_cons (de_keep (ee_op2 ok_mulI ee_int (v 0))) ae_nil) rfl (hms := (mCons_len mNil_len)))))))
    (sse_one (se_ret (ge_e (ee_tup (ae_cons (de_keep (ee_op2 ok_div (v 1) (ee_fz (ge_call (G__law_power.k hr (by decide)) rfl (ae_cons (de_keep (v 0)) ae_nil) rfl (hms := (mCons_len mNil_len)))))) (ae_cons (de_keep (ee_op2 ok_mod (ee_fz (ge_callTy ok_int rfl Z.z_int (by decide +kernel) (ve_cons (v 1) ve_nil))) (ee_fz (ge_call (G__law_power.k hr (by decide)) rfl (ae_cons (de_keep (v 0)) ae_nil) rfl (hms := (mCons_len mNil_len)))))) ae_nil)))))))
theorem cal__law_pair {P : Program} {w : World} {K : PySem.W.Frag} {mg : Str → Option Value} {base : Heap} (Dx : DefAt K mg "_law_pair" s__law_pair ["width", "number"]) (Z : Zs K mg) (G__law_power : Cal P w K mg base "_law_power" 1 F__law_power 1) : Cal P w K mg base "_law_pair" 2 F__law_pair 2 :=
  have h : Cal P w K mg base "_law_pair" (["width", "number"] : List Str).length (fnM (["width", "number"] : List Str).length m__law_pair) (1 + 1) := cal_of Dx sc__law_pair (by decide) (k := 1) (m := m__law_pair) fun f fd cdv A outer s H B E hr nd => body__law_pair Z G__law_power f cdv A outer s H B E hr nd
  h
abbrev s__law_places : Stmt := topS 42
theorem sc__law_places : FnScope ["number", "width", "found", "place"] ["number", "width"] (defScope s__law_places) := ⟨rfl, rfl, rfl, by decide +kernel, rfl, by decide +kernel, by decide +kernel⟩
def m__law_places : MoS :=
  (mSeq (mSet 2 (mLst mNil))
    (mSeq (mFor (mRg1 (mCons (mKeep (mOp2 (iC mulC fun i j => i * j) (mC (.int 2)) (mVar 1))) mNil)) (gN 3)
    (mIfS (mTest (mOp2 fEq (mOp2 (iC (fun _ j => decide (0 < j)) fun i j => i % j) (mFz (mCB fInt (vCons (mOp2 (iC divC fun i j => i / j) (mVar 0) (mFz (mCall F__law_power (mCons (mKeep (mVar 3)) mNil)))) vNil))) (mC (.int 2))) (mC (.int 1))))
    (mAppend (mVar 2) (mKeep (mVar 3)))
    mSkip) [3])
    (mRet (mX (mIf (mTest (mOp2 (iB fun i j => decide (j < i)) (mFz (mCB fLen (vCons (mVar 2) vNil))) (mC (.int 0)))) (mTup (mCons (mKeep (mOp2 fIx (mVar 2) (mOp1 (i1 fun i => -i) (mC (.int 1))))) (mCons (mKeep (mOp2 fIx (mVar 2) (mC (.int 0)))) mNil))) (mTup (mCons (mKeep (mOp1 (i1 fun i => -i) (mC (.int 1)))) (mCons (mKeep (mOp2 (iC mulC fun i j => i * j) (mC (.int 2)) (mVar 1))) mNil))))))))
def F__law_places : Fm := fnM 4 m__law_places
theorem body__law_places {P : Program} {w : World} {K : PySem.W.Frag} {mg : Str → Option Value} {base : Heap} (Z : Zs K mg) (G__law_power : Cal P w K mg base "_law_power" 1 F__law_power 1) (f : Addr) (cdv : Value) (A : Around) (outer : List Env) (s : Shared) (H : Hp) (B : Bs) (E : XK) (hr : L2.Room 1 (A.deeper (envOfC "_law_places" (defScope s__law_places) s.heap.objs.size f cdv))) (nd : Fact' (["number", "width", "found", "place"] : List Str).Nodup) :
    SSE (cxD P w K mg base ["number", "width", "found", "place"] "_law_places" (defScope s__law_places) f cdv A outer s H E) ⟨⟨K, mg⟩, (["number", "width", "found", "place"] : List Str).length, B, H⟩ (WD E) (defBody s__law_places) m__law_places := by
  have hu := hr.units
  have hu5 := hr.units5
  exact (sse_cons (st 2 (ge_lst ae_nil))
    (sse_cons (se_for (vs := [3]) [3] (ie_range1 rfl Z.z_range (ae_cons (de_keep (ee_op2 ok_mulI ee_int (v 1))) ae_nil)) (tn 3)
    (sse_one (se_if (te_cmp (ok_eq hu) (ee_op2 ok_mod (ee_fz (ge_callTy ok_int rfl Z.z_int (by decide +kernel) (ve_cons (ee_op2 ok_div (v 0) (ee_fz (ge_call (G__law_power.k hr (by decide)) rfl (ae_cons (de_keep (v 3)) ae_nil) rfl (hms := (mCons_len mNil_len))))) ve_nil))) ee_int) ee_int (nomark _))
    (sse_one (se_append (v 2) (de_keep (v 3))))
    sse_nil)))
    (sse_one (se_ret (ge_e (ee_if (te_cmp ok_gt (ee_fz (ge_callB ok_len rfl Z.z_len (by decide +kernel) (ve_cons (v 2) ve_nil))) ee_int (nomark _)) (ee_tup (ae_cons (de_keep (ee_ix (v 2) (ee_op1 ok_neg ee_int))) (ae_cons (de_keep (ee_ix (v 2) ee_int)) ae_nil))) (ee_tup (ae_cons (de_keep (ee_op1 ok_neg ee_int)) (ae_cons (de_keep (ee_op2 ok_mulI ee_int (v 1))) ae_nil)))))))))
theorem cal__law_places {P : Program} {w : World} {K : PySem.W.Frag} {mg : Str → Option Value} {base : Heap} (Dx : DefAt K mg "_law_places" s__law_places ["number", "width"]) (Z : Zs K mg) (G__law_power : Cal P w K mg base "_law_power" 1 F__law_power 1) : Cal P w K mg base "_law_places" 2 F__law_places 2 :=
  have h : Cal P w K mg base "_law_places" (["number", "width"] : List Str).length (fnM (["number", "width", "found", "place"] : List Str).length m__law_places) (1 + 1) := cal_of Dx sc__law_places (by decide) (k := 1) (m := m__law_places) fun f fd cdv A outer s H B E hr nd => body__law_places Z G__law_power f cdv A outer s H B E hr nd
  h
abbrev s__law_sums_right : Stmt := topS 43
theorem sc__law_sums_right : FnScope ["hand", "width", "one", "other", "top", "half", "first", "second", "steps", "reading", "mine", "its"] ["hand", "width", "one", "other"] (defScope s__law_sums_right) := ⟨rfl, rfl, rfl, by decide +kernel, rfl, by decide +kernel, by decide +kernel⟩
def m__law_sums_right : MoS :=
  (mSeq (mPar2 4 5 (mPv (mCall F__law_power (mCons (mKeep (mOp2 (iC mulC fun i j => i * j) (mC (.int 2)) (mVar 1))) mNil))) (mPv (mCall F__law_power (mCons (mKeep (mVar 1)) mNil))))
    (mSeq (mPar2 6 7 (mPv (mOpG fAdd (mOp2 (iC mulC fun i j => i * j) (mOp2 fIx (mVar 2) (mC (.int 0))) (mVar 5)) (mOp2 fIx (mVar 2) (mC (.int 1))))) (mPv (mOpG fAdd (mOp2 (iC mulC fun i j => i * j) (mOp2 fIx (mVar 3) (mC (.int 0))) (mVar 5)) (mOp2 fIx (mVar 3) (mC (.int 1))))))
    (mSeq (mIfS (mOr (mTest (mOp2 fNe (mFz (mCall F_whole (mCons (mKeep (mVar 1)) (mCons (mKeep (mVar 2)) mNil)))) (mVar 6))) (mTest (mOp2 fNe (mFz (mCall F_double_of (mCons (mKeep (mVar 1)) (mCons (mKeepX (mOpG fAdd (mVar 6) (mOp2 (iC mulC fun i j => i * j) (mVar 4) (mOp2 (iI fun i j => i - j) (mFz (mCall F__law_draw (mCons (mKeep (mVar 0)) (mCons (mKeep (mC (.int 9))) mNil)))) (mC (.int 4)))))) mNil)))) (mVar 2))))
    (mRet (mX (mC (.bl false))))
    mSkip)
    (mSeq (mIfS (mTest (mOp2 fNe (mFz (mCall F_double_sum (mCons (mKeep (mVar 1)) (mCons (mKeep (mVar 2)) (mCons (mKeep (mVar 3)) mNil))))) (mTup (mCons (mKeepX (mCall F__law_pair (mCons (mKeep (mVar 1)) (mCons (mKeepX (mOpG fAdd (mVar 6) (mVar 7))) mNil)))) (mCons (mKeepX (mCB fInt (vCons (mOp2 (iB fun i j => decide (j ≤ i)) (mFz (mOpG fAdd (mVar 6) (mVar 7))) (mVar 4)) vNil))) mNil)))))
    (mRet (mX (mC (.bl false))))
    mSkip)
    (mSeq (mIfS (mTest (mOp2 fNe (mFz (mCall F_double_difference (mCons (mKeep (mVar 1)) (mCons (mKeep (mVar 2)) (mCons (mKeep (mVar 3)) mNil))))) (mTup (mCons (mKeepX (mCall F__law_pair (mCons (mKeep (mVar 1)) (mCons (mKeep (mOp2 (iI fun i j => i - j) (mVar 6) (mVar 7))) mNil)))) (mCons (mKeepX (mCB fInt (vCons (mOp2 (iB fun i j => decide (i < j)) (mVar 6) (mVar 7)) vNil))) mNil)))))
    (mRet (mX (mC (.bl false))))
    mSkip)
    (mSeq (mIfS (mTest (mOp2 fNe (mOp2 fIx (mFz (mCall F_double_difference (mCons (mKeep (mVar 1)) (mCons (mKeep (mOp2 fIx (mFz (mCall F_double_sum (mCons (mKeep (mVar 1)) (mCons (mKeep (mVar 2)) (mCons (mKeep (mVar 3)) mNil))))) (mC (.int 0)))) (mCons (mKeep (mVar 3)) mNil))))) (mC (.int 0))) (mVar 2)))
    (mRet (mX (mC (.bl false))))
    mSkip)
    (mSeq (mIfS (mTest (mOp2 fNe (mFz (mCall F_double_turned (mCons (mKeep (mVar 1)) (mCons (mKeep (mVar 2)) mNil)))) (mFz (mCall F__law_pair (mCons (mKeep (mVar 1)) (mCons (mKeep (mOp2 (iI fun i j => i - j) (mC (.int 0)) (mVar 6))) mNil))))))
    (mRet (mX (mC (.bl false))))
    mSkip)
    (mSeq (mSet 8 (mCall F__law_draw (mCons (mKeep (mVar 0)) (mCons (mKeep (mOp2 (iI fun i j => i + j) (mOp2 (iC mulC fun i j => i * j) (mC (.int 2)) (mVar 1)) (mC (.int 1)))) mNil))))
    (mSeq (mIfS (mTest (mOp2 fNe (mFz (mCall F_double_up (mCons (mKeep (mVar 1)) (mCons (mKeep (mVar 2)) (mCons (mKeep (mVar 8)) mNil))))) (mFz (mCall F__law_pair (mCons (mKeep (mVar 1)) (mCons (mKeep (mOp2 (iC mulC fun i j => i * j) (mVar 6) (mFz (mCall F__law_power (mCons (mKeep (mVar 8)) mNil))))) mNil))))))
    (mRet (mX (mC (.bl false))))
    mSkip)
    (mSeq (mIfS (mTest (mOp2 fNe (mFz (mCall F_double_down (mCons (mKeep (mVar 1)) (mCons (mKeep (mVar 2)) (mCons (mKeep (mVar 8)) mNil))))) (mFz (mCall F__law_pair (mCons (mKeep (mVar 1)) (mCons (mKeep (mOp2 (iC divC fun i j => i / j) (mVar 6) (mFz (mCall F__law_power (mCons (mKeep (mVar 8)) mNil))))) mNil))))))
    (mRet (mX (mC (.bl false))))
    mSkip)
    (mSeq (mIfS (mTest (mOp2 fNe (mFz (mCall F_double_places (mCons (mKeep (mVar 1)) (mCons (mKeep (mVar 2)) mNil)))) (mFz (mCall F__law_places (mCons (mKeep (mVar 6)) (mCons (mKeep (mVar 1)) mNil))))))
    (mRet (mX (mC (.bl false))))
    mSkip)
    (mSeq (mFor (mIt (mKeep (mTup (mCons (mKeep (mC (.str "plain"))) (mCons (mKeep (mC (.str "two"))) mNil))))) (gN 9)
    (mSeq (mPar2 10 11 (mPv (mX (mVar 6))) (mPv (mX (mVar 7))))
    (mSeq (mIfS (mTest (mOp2 fEq (mVar 9) (mC (.str "two"))))
    (mPar2 10 11 (mPv (mCall F__law_two (mCons (mKeep (mOp2 (iC mulC fun i j => i * j) (mC (.int 2)) (mVar 1))) (mCons (mKeep (mVar 6)) mNil)))) (mPv (mCall F__law_two (mCons (mKeep (mOp2 (iC mulC fun i j => i * j) (mC (.int 2)) (mVar 1))) (mCons (mKeep (mVar 7)) mNil)))))
    mSkip)
    (mSeq (mIfS (mTest (mOp2 fNe (mFz (mCall F_double_compared (mCons (mKeep (mVar 9)) (mCons (mKeep (mVar 1)) (mCons (mKeep (mVar 2)) (mCons (mKeep (mVar 3)) mNil)))))) (mOp2 (iI fun i j => i - j) (mFz (mCB fInt (vCons (mOp2 (iB fun i j => decide (j < i)) (mVar 10) (mVar 11)) vNil))) (mFz (mCB fInt (vCons (mOp2 (iB fun i j => decide (i < j)) (mVar 10) (mVar 11)) vNil))))))
    (mRet (mX (mC (.bl false))))
    mSkip)
    (mIfS (mTest (mOp2 fNe (mFz (mCall F_double_compared (mCons (mKeep (mVar 9)) (mCons (mKeep (mVar 1)) (mCons (mKeep (mVar 2)) (mCons (mKeep (mVar 2)) mNil)))))) (mC (.int 0))))
    (mRet (mX (mC (.bl false))))
    mSkip)))) [9, 10, 11])
    (mRet (mX (mC (.bl true))))))))))))))))
def F__law_sums_right : Fm := fnM 12 m__law_sums_right
theorem body__law_sums_right {P : Program} {w : World} {K : PySem.W.Frag} {mg : Str → Option Value} {base : Heap} (Z : Zs K mg) (G_double_compared : Cal P w K mg base "double_compared" 4 F_double_compared 7) (G__law_two : Cal P w K mg base "_law_two" 2 F__law_two 2) (G_double_places : Cal P w K mg base "double_places" 2 F_double_places 7) (G__law_places : Cal P w K mg base "_law_places" 2 F__law_places 2) (G_double_down : Cal P w K mg base "double_down" 3 F_double_down 7) (G__law_pair : Cal P w K mg base "_law_pair" 2 F__law_pair 2) (G__law_power : Cal P w K mg base "_law_power" 1 F__law_power 1) (G_double_up : Cal P w K mg base "double_up" 3 F_double_up 7) (G__law_draw : Cal P w K mg base "_law_draw" 2 F__law_draw 1) (G_double_turned : Cal P w K mg base "double_turned" 2 F_double_turned 7) (G_double_difference : Cal P w K mg base "double_difference" 3 F_double_difference 7) (G_double_sum : Cal P w K mg base "double_sum" 3 F_double_sum 7) (G_whole : Cal P w K mg base "whole" 2 F_whole 7) (G_double_of : Cal P w K mg base "double_of" 2 F_double_of 6) (f : Addr) (cdv : Value) (A : Around) (outer : List Env) (s : Shared) (H : Hp) (B : Bs) (E : XK) (hr : L2.Room 7 (A.deeper (envOfC "_law_sums_right" (defScope s__law_sums_right) s.heap.objs.size f cdv))) (nd : Fact' (["hand", "width", "one", "other", "top", "half", "first", "second", "steps", "reading", "mine", "its"] : List Str).Nodup) :
    SSE (cxD P w K mg base ["hand", "width", "one", "other", "top", "half", "first", "second", "steps", "reading", "mine", "its"] "_law_sums_right" (defScope s__law_sums_right) f cdv A outer s H E) ⟨⟨K, mg⟩, (["hand", "width", "one", "other", "top", "half", "first", "second", "steps", "reading", "mine", "its"] : List Str).length, B, H⟩ (WD E) (defBody s__law_sums_right) m__law_sums_right := by
  have hu := hr.units
  have hu5 := hr.units5
  exact (sse_cons (se_par2 4 5 rfl rfl (by decide) rfl rfl (xe_of (ge_call (G__law_power.k hr (by decide)) rfl (ae_cons (de_keep (ee_op2 ok_mulI ee_int (v 1))) ae_nil) rfl (hms := (mCons_len mNil_len)))) (xe_of (ge_call (G__law_power.k hr (by decide)) rfl (ae_cons (de_keep (v 1)) ae_nil) rfl (hms := (mCons_len mNil_len)))))
    (sse_cons (se_par2 6 7 rfl rfl (by decide) rfl rfl (xe_of (ge_op2 ok_add (ee_op2 ok_mulI (ee_ix (v 2) ee_int) (v 5)) (ee_ix (v 2) ee_int))) (xe_of (ge_op2 ok_add (ee_op2 ok_mulI (ee_ix (v 3) ee_int) (v 5)) (ee_ix (v 3) ee_int))))
    (sse_cons (se_if (te_w (we_or (te_cmp (ok_ne hu) (ee_fz (ge_call (G_whole.k hr (by decide)) rfl (ae_cons (de_keep (v 1)) (ae_cons (de_keep (v 2)) ae_nil)) rfl (hms := (mCons_len (mCons_len mNil_len))))) (v 6) (nomark _)) (we_or1 (te_cmp (ok_ne hu) (ee_fz (ge_call (G_double_of.k hr (by decide)) rfl (ae_cons (de_keep (v 1)) (ae_cons (de_keepX (ge_op2 ok_add (v 6) (ee_op2 ok_mulI (v 4) (ee_op2 ok_sub (ee_fz (ge_call (G__law_draw.k hr (by decide)) rfl (ae_cons (de_keep (v 0)) (ae_cons (de_keep ee_int) ae_nil)) rfl (hms := (mCons_len (mCons_len mNil_len))))) ee_int)))) ae_nil)) rfl (hms := (mCons_len (mCons_len mNil_len))))) (v 2) (nomark _)))))
    (sse_one (se_ret (ge_e ee_bl)))
    sse_nil)
    (sse_cons (se_if (te_cmp (ok_ne hu) (ee_fz (ge_call (G_double_sum.k hr (by decide)) rfl (ae_cons (de_keep (v 1)) (ae_cons (de_keep (v 2)) (ae_cons (de_keep (v 3)) ae_nil))) rfl (hms := (mCons_len (mCons_len (mCons_len mNil_len)))))) (ee_tup (ae_cons (de_keepX (ge_call (G__law_pair.k hr (by decide)) rfl (ae_cons (de_keep (v 1)) (ae_cons (de_keepX (ge_op2 ok_add (v 6) (v 7))) ae_nil)) rfl (hms := (mCons_len (mCons_len mNil_len))))) (ae_cons (de_keepX (ge_callTy ok_int rfl Z.z_int (by decide +kernel) (ve_cons (ee_cmp ok_ge (ee_fz (ge_op2 ok_add (v 6) (v 7))) (v 4) (nomark _)) ve_nil))) ae_nil))) (nomark _))
    (sse_one (se_ret (ge_e ee_bl)))
    sse_nil)
    (sse_cons (se_if (te_cmp (ok_ne hu) (ee_fz (ge_call (G_double_difference.k hr (by decide)) rfl (ae_cons (de_keep (v 1)) (ae_cons (de_keep (v 2)) (ae_cons (de_keep (v 3)) ae_nil))) rfl (hms := (mCons_len (mCons_len (mCons_len mNil_len)))))) (ee_tup (ae_cons (de_keepX (ge_call (G__law_pair.k hr (by decide)) rfl (ae_cons (de_keep (v 1)) (ae_cons (de_keep (ee_op2 ok_sub (v 6) (v 7))) ae_nil)) rfl (hms := (mCons_len (mCons_len mNil_len))))) (ae_cons (de_keepX (ge_callTy ok_int rfl Z.z_int (by decide +kernel) (ve_cons (ee_cmp ok_lt (v 6) (v 7) (nomark _)) ve_nil))) ae_nil))) (nomark _))
    (sse_one (se_ret (ge_e ee_bl)))
    sse_nil)
    (sse_cons (se_if (te_cmp (ok_ne hu) (ee_ix (ee_fz (ge_call (G_double_difference.k hr (by decide)) rfl (ae_cons (de_keep (v 1)) (ae_cons (de_keep (ee_ix (ee_fz (ge_call (G_double_sum.k hr (by decide)) rfl (ae_cons (de_keep (v 1)) (ae_cons (de_keep (v 2)) (ae_cons (de_keep (v 3)) ae_nil))) rfl (hms := (mCons_len (mCons_len (mCons_len mNil_len)))))) ee_int)) (ae_cons (de_keep (v 3)) ae_nil))) rfl (hms := (mCons_len (mCons_len (mCons_len mNil_len)))))) ee_int) (v 2) (nomark _))
    (sse_one (se_ret (ge_e ee_bl)))
    sse_nil)
    (sse_cons (se_if (te_cmp (ok_ne hu) (ee_fz (ge_call (G_double_turned.k hr (by decide)) rfl (ae_cons (de_keep (v 1)) (ae_cons (de_keep (v 2)) ae_nil)) rfl (hms := (mCons_len (mCons_len mNil_len))))) (ee_fz (ge_call (G__law_pair.k hr (by decide)) rfl (ae_cons (de_keep (v 1)) (ae_cons (de_keep (ee_op2 ok_sub ee_int (v 6))) ae_nil)) rfl (hms := (mCons_len (mCons_len mNil_len))))) (nomark _))
    (sse_one (se_ret (ge_e ee_bl)))
    sse_nil)
    (sse_cons (st 8 (ge_call (G__law_draw.k hr (by decide)) rfl (ae_cons (de_keep (v 0)) (ae_cons (de_keep (ee_op2 ok_addI (ee_op2 ok_mulI ee_int (v 1)) ee_int)) ae_nil)) rfl (hms := (mCons_len (mCons_len mNil_len)))))
    (sse_cons (se_if (te_cmp (ok_ne hu) (ee_fz (ge_call (G_double_up.k hr (by decide)) rfl (ae_cons (de_keep (v 1)) (ae_cons (de_keep (v 2)) (ae_cons (de_keep (v 8)) ae_nil))) rfl (hms := (mCons_len (mCons_len (mCons_len mNil_len)))))) (ee_fz (ge_call (G__law_pair.k hr (by decide)) rfl (ae_cons (de_keep (v 1)) (ae_cons (de_keep (ee_op2 ok_mulI (v 6) (ee_fz (ge_call (G__law_power.k hr (by decide)) rfl (ae_cons (de_keep (v 8)) ae_nil) rfl (hms := (mCons_len mNil_len)))))) ae_nil)) rfl (hms := (mCons_len (mCons_len mNil_len))))) (nomark _))
    (sse_one (se_ret (ge_e ee_bl)))
    sse_nil)
    (sse_cons (se_if (te_cmp (ok_ne hu) (ee_fz (ge_call (G_double_down.k hr (by decide)) rfl (ae_cons (de_keep (v 1)) (ae_cons (de_keep (v 2)) (ae_cons (de_keep (v 8)) ae_nil))) rfl (hms := (mCons_len (mCons_len (mCons_len mNil_len)))))) (ee_fz (ge_call (G__law_pair.k hr (by decide)) rfl (ae_cons (de_keep (v 1)) (ae_cons (de_keep (ee_op2 ok_div (v 6) (ee_fz (ge_call (G__law_power.k hr (by decide)) rfl (ae_cons (de_keep (v 8)) ae_nil) rfl (hms := (mCons_len mNil_len)))))) ae_nil)) rfl (hms := (mCons_len (mCons_len mNil_len))))) (nomark _))
    (sse_one (se_ret (ge_e ee_bl)))
    sse_nil)
    (sse_cons (se_if (te_cmp (ok_ne hu) (ee_fz (ge_call (G_double_places.k hr (by decide)) rfl (ae_cons (de_keep (v 1)) (ae_cons (de_keep (v 2)) ae_nil)) rfl (hms := (mCons_len (mCons_len mNil_len))))) (ee_fz (ge_call (G__law_places.k hr (by decide)) rfl (ae_cons (de_keep (v 6)) (ae_cons (de_keep (v 1)) ae_nil)) rfl (hms := (mCons_len (mCons_len mNil_len))))) (nomark _))
    (sse_one (se_ret (ge_e ee_bl)))
    sse_nil)
    (sse_cons (se_for (vs := [9]) [9, 10, 11] (ie_seq (de_keep (ee_tup (ae_cons (de_keep ee_str) (ae_cons (de_keep ee_str) ae_nil))))) (tn 9)
    (sse_cons (se_par2 10 11 rfl rfl (by decide) rfl rfl (xe_of (ge_e (v 6))) (xe_of (ge_e (v 7))))
    (sse_cons (se_if (te_cmp (ok_eq hu) (v 9) ee_str (nomark _))
    (sse_one (se_par2 10 11 rfl rfl (by decide) rfl rfl (xe_of (ge_call (G__law_two.k hr (by decide)) rfl (ae_cons (de_keep (ee_op2 ok_mulI ee_int (v 1))) (ae_cons (de_keep (v 6)) ae_nil)) rfl (hms := (mCons_len (mCons_len mNil_len))))) (xe_of (ge_call (G__law_two.k hr (by decide)) rfl (ae_cons (de_keep (ee_op2 ok_mulI ee_int (v 1))) (ae_cons (de_keep (v 7)) ae_nil)) rfl (hms := (mCons_len (mCons_len mNil_len)))))))
    sse_nil)
    (sse_cons (se_if (te_cmp (ok_ne hu) (ee_fz (ge_call (G_double_compared.k hr (by decide)) rfl (ae_cons (de_keep (v 9)) (ae_cons (de_keep (v 1)) (ae_cons (de_keep (v 2)) (ae_cons (de_keep (v 3)) ae_nil)))) rfl (hms := (mCons_len (mCons_len (mCons_len (mCons_len mNil_len))))))) (ee_op2 ok_sub (ee_fz (ge_callTy ok_int rfl Z.z_int (by decide +kernel) (ve_cons (ee_cmp ok_gt (v 10) (v 11) (nomark _)) ve_nil))) (ee_fz (ge_callTy ok_int rfl Z.z_int (by decide +kernel) (ve_cons (ee_cmp ok_lt (v 10) (v 11) (nomark _)) ve_nil)))) (nomark _))
    (sse_one (se_ret (ge_e ee_bl)))
    sse_nil)
    (sse_one (se_if (te_cmp (ok_ne hu) (ee_fz (ge_call (G_double_compared.k hr (by decide)) rfl (ae_cons (de_keep (v 9)) (ae_cons (de_keep (v 1)) (ae_cons (de_keep (v 2)) (ae_cons (de_keep (v 2)) ae_nil)))) rfl (hms := (mCons_len (mCons_len (mCons_len (mCons_len mNil_len))))))) ee_int (nomark _))
    (sse_one (se_ret (ge_e ee_bl)))
    sse_nil))))))
    (sse_one (se_ret (ge_e ee_bl)))))))))))))))
theorem cal__law_sums_right {P : Program} {w : World} {K : PySem.W.Frag} {mg : Str → Option Value} {base : Heap} (Dx : DefAt K mg "_law_sums_right" s__law_sums_right ["hand", "width", "one", "other"]) (Z : Zs K mg) (G_double_compared : Cal P w K mg base "double_compared" 4 F_double_compared 7) (G__law_two : Cal P w K mg base "_law_two" 2 F__law_two 2) (G_double_places : Cal P w K mg base "double_places" 2 F_double_places 7) (G__law_places : Cal P w K mg base "_law_places" 2 F__law_places 2) (G_double_down : Cal P w K mg base "double_down" 3 F_double_down 7) (G__law_pair : Cal P w K mg base "_law_pair" 2 F__law_pair 2) (G__law_power : Cal P w K mg base "_law_power" 1 F__law_power 1) (G_double_up : Cal P w K mg base "double_up" 3 F_double_up 7) (G__law_draw : Cal P w K mg base "_law_draw" 2 F__law_draw 1) (G_double_turned : Cal P w K mg base "double_turned" 2 F_double_turned 7) (G_double_difference : Cal P w K mg base "double_difference" 3 F_double_difference 7) (G_double_sum : Cal P w K mg base "double_sum" 3 F_double_sum 7) (G_whole : Cal P w K mg base "whole" 2 F_whole 7) (G_double_of : Cal P w K mg base "double_of" 2 F_double_of 6) : Cal P w K mg base "_law_sums_right" 4 F__law_sums_right 8 :=
  have h : Cal P w K mg base "_law_sums_right" (["hand", "width", "one", "other"] : List Str).length (fnM (["hand", "width", "one", "other", "top", "half", "first", "second", "steps", "reading", "mine", "its"] : List Str).length m__law_sums_right) (7 + 1) := cal_of Dx sc__law_sums_right (by decide) (k := 7) (m := m__law_sums_right) fun f fd cdv A outer s H B E hr nd => body__law_sums_right Z G_double_compared G__law_two G_double_places G__law_places G_double_down G__law_pair G__law_power G_double_up G__law_draw G_double_turned G_double_difference G_double_sum G_whole G_double_of f cdv A outer s H B E hr nd
  h
abbrev s__law_right : Stmt := topS 44
theorem sc__law_right : FnScope ["hand", "width", "one", "other", "top", "half", "first", "second", "word", "root", "rest", "left", "reading", "number", "mine", "pair"] ["hand"] (defScope s__law_right) := ⟨rfl, rfl, rfl, by decide +kernel, rfl, by decide +kernel, by decide +kernel⟩
def m__law_right : MoS :=
  (mSeq (mSet 1 (mCall F__law_width (mCons (mKeep (mVar 0)) mNil)))
    (mSeq (mAsg (mKeepX (mLc (mRg1 (mCons (mKeep (mC (.int 2))) mNil)) (gN 15) mYes (mKeep (mTup (mCons (mKeepX (mCall F__law_word (mCons (mKeep (mVar 0)) (mCons (mKeep (mVar 1)) mNil)))) (mCons (mKeepX (mCall F__law_word (mCons (mKeep (mVar 0)) (mCons (mKeep (mVar 1)) mNil)))) mNil)))) [15])) (gL 2 (gsC (gN 2) (gsC (gN 3) gsN))))
    (mSeq (mIfS (mTest (mOp2 fEq (mFz (mCall F__law_draw (mCons (mKeep (mVar 0)) (mCons (mKeep (mC (.int 3))) mNil)))) (mC (.int 0))))
    (mSet 2 (mX (mTup (mCons (mKeep (mC (.int 0))) (mCons (mKeep (mOp2 fIx (mVar 2) (mC (.int 1)))) mNil)))))
    mSkip)
    (mSeq (mIfS (mNot (mTest (mFz (mCall F__law_sums_right (mCons (mKeep (mVar 0)) (mCons (mKeep (mVar 1)) (mCons (mKeep (mVar 2)) (mCons (mKeep (mVar 3)) mNil))))))))
    (mRet (mX (mC (.bl false))))
    mSkip)
    (mSeq (mPar2 4 5 (mPv (mCall F__law_power (mCons (mKeep (mOp2 (iC mulC fun i j => i * j) (mC (.int 2)) (mVar 1))) mNil))) (mPv (mCall F__law_power (mCons (mKeep (mVar 1)) mNil))))
    (mSeq (mPar2 6 7 (mPv (mOpG fAdd (mOp2 (iC mulC fun i j => i * j) (mOp2 fIx (mVar 2) (mC (.int 0))) (mVar 5)) (mOp2 fIx (mVar 2) (mC (.int 1))))) (mPv (mOpG fAdd (mOp2 (iC mulC fun i j => i * j) (mOp2 fIx (mVar 3) (mC (.int 0))) (mVar 5)) (mOp2 fIx (mVar 3) (mC (.int 1))))))
    (mSeq (mIfS (mTest (mOp2 fNe (mFz (mCall F_double_product (mCons (mKeep (mVar 1)) (mCons (mKeep (mVar 2)) (mCons (mKeep (mVar 3)) mNil))))) (mTup (mCons (mKeepX (mCall F__law_pair (mCons (mKeep (mVar 1)) (mCons (mKeep (mOp2 (iC mulC fun i j => i * j) (mVar 6) (mVar 7))) mNil)))) (mCons (mKeep (mOp2 (iB fun i j => decide (i < j)) (mOp2 (iC mulC fun i j => i * j) (mVar 6) (mVar 7)) (mVar 4))) mNil)))))
    (mRet (mX (mC (.bl false))))
    mSkip)
    (mSeq (mSet 8 (mCB fMax2 (vCons (mC (.int 1)) (vCons (mFz (mCall F__law_word (mCons (mKeep (mVar 0)) (mCons (mKeep (mVar 1)) mNil)))) vNil))))
    (mSeq (mIfS (mTest (mOp2 fNe (mFz (mCall F_double_divided (mCons (mKeep (mVar 1)) (mCons (mKeep (mVar 2)) (mCons (mKeep (mVar 8)) mNil))))) (mTup (mCons (mKeepX (mCall F__law_pair (mCons (mKeep (mVar 1)) (mCons (mKeep (mOp2 (iC divC fun i j => i / j) (mVar 6) (mVar 8))) mNil)))) (mCons (mKeep (mOp2 (iC (fun _ j => decide (0 < j)) fun i j => i % j) (mFz (mCB fInt (vCons (mVar 6) vNil))) (mVar 8))) mNil)))))
    (mRet (mX (mC (.bl false))))
    mSkip)
    (mSeq (mAsg (mKeepX (mCall F_double_root (mCons (mKeep (mVar 1)) (mCons (mKeep (mVar 2)) mNil)))) (gT 2 (gsC (gN 9) (gsC (gN 10) gsN))))
    (mSeq (mSet 11 (mOpG fAdd (mOp2 (iC mulC fun i j => i * j) (mOp2 fIx (mVar 10) (mC (.int 0))) (mFz (mCall F__law_power (mCons (mKeep (mVar 1)) mNil)))) (mOp2 fIx (mVar 10) (mC (.int 1)))))
    (mSeq (mIfS (mOr (mTest (mOp2 fNe (mFz (mOpG fAdd (mOp2 (iC mulC fun i j => i * j) (mVar 9) (mVar 9)) (mVar 11))) (mVar 6))) (mOr (mNot (mTest (mChain (iB fun i j => decide (i ≤ j)) (iB fun i j => decide (i ≤ j)) (mC (.int 0)) (mVar 11) (mOp2 (iC mulC fun i j => i * j) (mC (.int 2)) (mVar 9))))) (mNot (mTest (mChain (iB fun i j => decide (i ≤ j)) (iB fun i j => decide (i < j)) (mC (.int 0)) (mVar 9) (mFz (mCall F__law_power (mCons (mKeep (mVar 1)) mNil))))))))
    (mRet (mX (mC (.bl false))))
    mSkip)
    (mSeq (mSet 8 (mCall F__law_word (mCons (mKeep (mVar 0)) (mCons (mKeep (mVar 1)) mNil))))
    (mSeq (mFor (mIt (mKeep (mTup (mCons (mKeep (mC (.str "plain"))) (mCons (mKeep (mC (.str "two"))) mNil))))) (gN 12)
    (mSeq (mSet 13 (mIf (mTest (mOp2 fEq (mVar 12) (mC (.str "two")))) (mCall F__law_two (mCons (mKeep (mVar 1)) (mCons (mKeep (mVar 8)) mNil))) (mX (mVar 8))))
    (mSeq (mSet 14 (mIf (mTest (mOp2 fEq (mVar 12) (mC (.str "two")))) (mCall F__law_two (mCons (mKeep (mOp2 (iC mulC fun i j => i * j) (mC (.int 2)) (mVar 1))) (mCons (mKeep (mVar 6)) mNil))) (mX (mVar 6))))
    (mSeq (mIfS (mTest (mOp2 fNe (mFz (mCB fRepr (vCons (mFz (mCall F_same_double (mCons (mKeep (mVar 12)) (mCons (mKeep (mVar 1)) (mCons (mKeep (mVar 2)) (mCons (mKeep (mVar 8)) mNil)))))) vNil))) (mFz (mCB fRepr (vCons (mOp2 fEq (mVar 14) (mVar 13)) vNil)))))
    (mRet (mX (mC (.bl false))))
    mSkip)
    (mIfS (mTest (mOp2 (fIsN true) (mFz (mCall F_same_double (mCons (mKeep (mVar 12)) (mCons (mKeep (mVar 1)) (mCons (mKeepX (mCall F__law_pair (mCons (mKeep (mVar 1)) (mCons (mKeep (mVar 13)) mNil)))) (mCons (mKeep (mVar 8)) mNil)))))) (mC (.bl true))))
    (mRet (mX (mC (.bl false))))
    mSkip)))) [12, 13, 14])
    (mRet (mX (mC (.bl true))))))))))))))))))
def F__law_right : Fm := fnM 16 m__law_right
theorem body__law_right {P : Program} {w : World} {K : PySem.W.Frag} {mg : Str → Option Value} {base : Heap} (Z : Zs K mg) (G_same_double : Cal P w K mg base "same_double" 4 F_same_double 7) (G__law_pair : Cal P w K mg base "_law_pair" 2 F__law_pair 2) (G__law_two : Cal P w K mg base "_law_two" 2 F__law_two 2) (G__law_word : Cal P w K mg base "_law_word" 2 F__law_word 3) (G__law_power : Cal P w K mg base "_law_power" 1 F__law_power 1) (G_double_root : Cal P w K mg base "double_root" 2 F_double_root 7) (G_double_divided : Cal P w K mg base "double_divided" 3 F_double_divided 7) (G_double_product : Cal P w K mg base "double_product" 3 F_double_product 7) (G__law_sums_right : Cal P w K mg base "_law_sums_right" 4 F__law_sums_right 8) (G__law_draw : Cal P w K mg base "_law_draw" 2 F__law_draw 1) (G__law_width : Cal P w K mg base "_law_width" 1 F__law_width 3) (f : Addr) (cdv : Value) (A : Around) (outer : List Env) (s : Shared) (H : Hp) (B : Bs) (E : XK) (hr : L2.Room 8 (A.deeper (envOfC "_law_right" (defScope s__law_right) s.heap.objs.size f cdv))) (nd : Fact' (["hand", "width", "one", "other", "top", "half", "first", "second", "word", "root", "rest", "left", "reading", "number", "mine", "pair"] : List Str).Nodup) :
    SSE (cxD P w K mg base ["hand", "width", "one", "other", "top", "half", "first", "second", "word", "root", "rest", "left", "reading", "number", "mine", "pair"] "_law_right" (defScope s__law_right) f cdv A outer s H E) ⟨⟨K, mg⟩, (["hand", "width", "one", "other", "top", "half", "first", "second", "word", "root", "rest", "left", "reading", "number", "mine", "pair"] : List Str).length, B, H⟩ (WD E) (defBody s__law_right) m__law_right := by
  have hu := hr.units
  have hu5 := hr.units5
  exact (sse_cons (st 1 (ge_call (G__law_width.k hr (by decide)) rfl (ae_cons (de_keep (v 0)) ae_nil) rfl (hms := (mCons_len mNil_len))))
    (sse_cons (se_asg (vs := [2, 3]) (de_keepX (ge_lc (own := [("pair", 15)]) (ie_range1 rfl Z.z_range (ae_cons (de_keep ee_int) ae_nil)) (blkOk_by (by kernel_rfl)) (fun _ _ _ _ _ => (tn 15)) (fun _ _ _ _ _ => tt_nil) (fun _ _ _ _ _ => (de_keep (ee_tup (ae_cons (de_keepX (ge_call (fnkB (G__law_word.k hr (by decide))) rfl (ae_cons (de_keep (v 0)) (ae_cons (de_keep (v 1)) ae_nil)) rfl (hms := (mCons_len (mCons_len mNil_len))))) (ae_cons (de_keepX (ge_call (fnkB (G__law_word.k hr (by decide))) rfl (ae_cons (de_keep (v 0)) (ae_cons (de_keep (v 1)) ae_nil)) rfl (hms := (mCons_len (mCons_len mNil_len))))) ae_nil))))))) (tg_lst (tgs_cons (tn 2) (tgs_cons (tn 3) tgs_nil))))
    (sse_cons (se_if (te_cmp (ok_eq hu) (ee_fz (ge_call (G__law_draw.k hr (by decide)) rfl (ae_cons (de_keep (v 0)) (ae_cons (de_keep ee_int) ae_nil)) rfl (hms := (mCons_len (mCons_len mNil_len))))) ee_int (nomark _))
    (sse_one (st 2 (ge_e (ee_tup (ae_cons (de_keep ee_int) (ae_cons (de_keep (ee_ix (v 2) ee_int)) ae_nil))))))
    sse_nil)
    (sse_cons (se_if (te_not (te_val (ee_fz (ge_call (G__law_sums_right.k hr (by decide)) rfl (ae_cons (de_keep (v 0)) (ae_cons (de_keep (v 1)) (ae_cons (de_keep (v 2)) (ae_cons (de_keep (v 3)) ae_nil)))) rfl (hms := (mCons_len (mCons_len (mCons_len (mCons_len mNil_len)))))))))
    (sse_one (se_ret (ge_e ee_bl)))
    sse_nil)
    (sse_cons (se_par2 4 5 rfl rfl (by decide) rfl rfl (xe_of (ge_call (G__law_power.k hr (by decide)) rfl (ae_cons (de_keep (ee_op2 ok_mulI ee_int (v 1))) ae_nil) rfl (hms := (mCons_len mNil_len)))) (xe_of (ge_call (G__law_power.k hr (by decide)) rfl (ae_cons (de_keep (v 1)) ae_nil) rfl (hms := (mCons_len mNil_len)))))
    (sse_cons (se_par2 6 7 rfl rfl (by decide) rfl rfl (xe_of (ge_op2 ok_add (ee_op2 ok_mulI (ee_ix (v 2) ee_int) (v 5)) (ee_ix (v 2) ee_int))) (xe_of (ge_op2 ok_add (ee_op2 ok_mulI (ee_ix (v 3) ee_int) (v 5)) (ee_ix (v 3) ee_int))))
    (sse_cons (se_if (te_cmp (ok_ne hu) (ee_fz (ge_call (G_double_product.k hr (by decide)) rfl (ae_cons (de_keep (v 1)) (ae_cons (de_keep (v 2)) (ae_cons (de_keep (v 3)) ae_nil))) rfl (hms := (mCons_len (mCons_len (mCons_len mNil_len)))))) (ee_tup (ae_cons (de_keepX (ge_call (G__law_pair.k hr (by decide)) rfl (ae_cons (de_keep (v 1)) (ae_cons (de_keep (ee_op2 ok_mulI (v 6) (v 7))) ae_nil)) rfl (hms := (mCons_len (mCons_len mNil_len))))) (ae_cons (de_keep (ee_cmp ok_lt (ee_op2 ok_mulI (v 6) (v 7)) (v 4) (nomark _))) ae_nil))) (nomark _))
    (sse_one (se_ret (ge_e ee_bl)))
    sse_nil)
    (sse_cons (st 8 (ge_callB ok_max2 rfl Z.z_max (by decide +kernel) (ve_cons ee_int (ve_cons (ee_fz (ge_call (G__law_word.k hr (by decide)) rfl (ae_cons (de_keep (v 0)) (ae_cons (de_keep (v 1)) ae_nil)) rfl (hms := (mCons_len (mCons_len mNil_len))))) ve_nil))))
    (sse_cons (se_if (te_cmp (ok_ne hu) (ee_fz (ge_call (G_double_divided.k hr (by decide)) rfl (ae_cons (de_keep (v 1)) (ae_cons (de_keep (v 2)) (ae_cons (de_keep (v 8)) ae_nil))) rfl (hms := (mCons_len (mCons_len (mCons_len mNil_len)))))) (ee_tup (ae_cons (de_keepX (ge_call (G__law_pair.k hr (by decide)) rfl (ae_cons (de_keep (v 1)) (ae_cons (de_keep (ee_op2 ok_div (v 6) (v 8))) ae_nil)) rfl (hms := (mCons_len (mCons_len mNil_len))))) (ae_cons (de_keep (ee_op2 ok_mod (ee_fz (ge_callTy ok_int rfl Z.z_int (by decide +kernel) (ve_cons (v 6) ve_nil))) (v 8))) ae_nil))) (nomark _))
    (sse_one (se_ret (ge_e ee_bl)))
    sse_nil)
    (sse_cons (se_asg (vs := [9, 10]) (de_keepX (ge_call (G_double_root.k hr (by decide)) rfl (ae_cons (de_keep (v 1)) (ae_cons (de_keep (v 2)) ae_nil)) rfl (hms := (mCons_len (mCons_len mNil_len))))) (tg_tup (tgs_cons (tn 9) (tgs_cons (tn 10) tgs_nil))))
    (sse_cons (st 11 (ge_op2 ok_add (ee_op2 ok_mulI (ee_ix (v 10) ee_int) (ee_fz (ge_call (G__law_power.k hr (by decide)) rfl (ae_cons (de_keep (v 1)) ae_nil) rfl (hms := (mCons_len mNil_len))))) (ee_ix (v 10) ee_int)))
    (sse_cons (se_if (te_w (we_or (te_cmp (ok_ne hu) (ee_fz (ge_op2 ok_add (ee_op2 ok_mulI (v 9) (v 9)) (v 11))) (v 6) (nomark _)) (we_or (te_not (te_chain ok_le ok_le ee_int (v 11) (ee_op2 ok_mulI ee_int (v 9)))) (we_or1 (te_not (te_chain ok_le ok_lt ee_int (v 9) (ee_fz (ge_call (G__law_power.k hr (by decide)) rfl (ae_cons (de_keep (v 1)) ae_nil) rfl (hms := (mCons_len mNil_len))))))))))
    (sse_one (se_ret (ge_e ee_bl)))
    sse_nil)
    (sse_cons (st 8 (ge_call (G__law_word.k hr (by decide)) rfl (ae_cons (de_keep (v 0)) (ae_cons (de_keep (v 1)) ae_nil)) rfl (hms := (mCons_len (mCons_len mNil_len)))))
    (sse_cons (se_for (vs := [12]) [12, 13, 14] (ie_seq (de_keep (ee_tup (ae_cons (de_keep ee_str) (ae_cons (de_keep ee_str) ae_nil))))) (tn 12)
    (sse_cons (st 13 (ge_if (te_cmp (ok_eq hu) (v 12) ee_str (nomark _)) (ge_call (G__law_two.k hr (by decide)) rfl (ae_cons (de_keep (v 1)) (ae_cons (de_keep (v 8)) ae_nil)) rfl (hms := (mCons_len (mCons_len mNil_len)))) (ge_e (v 8))))
    (sse_cons (st 14 (ge_if (te_cmp (ok_eq hu) (v 12) ee_str (nomark _)) (ge_call (G__law_two.k hr (by decide)) rfl (ae_cons (de_keep (ee_op2 ok_mulI ee_int (v 1))) (ae_cons (de_keep (v 6)) ae_nil)) rfl (hms := (mCons_len (mCons_len mNil_len)))) (ge_e (v 6))))
    (sse_cons (se_if (te_cmp (ok_ne hu) (ee_fz (ge_callB ok_repr rfl Z.z_repr (by decide +kernel) (ve_cons (ee_fz (ge_call (G_same_double.k hr (by decide)) rfl (ae_cons (de_keep (v 12)) (ae_cons (de_keep (v 1)) (ae_cons (de_keep (v 2)) (ae_cons (de_keep (v 8)) ae_nil)))) rfl (hms := (mCons_len (mCons_len (mCons_len (mCons_len mNil_len))))))) ve_nil))) (ee_fz (ge_callB ok_repr rfl Z.z_repr (by decide +kernel) (ve_cons (ee_cmp (ok_eq hu) (v 14) (v 13) (nomark _)) ve_nil))) (nomark _))
    (sse_one (se_ret (ge_e ee_bl)))
    sse_nil)
    (sse_one (se_if (te_cmp ok_isnot (ee_fz (ge_call (G_same_double.k hr (by decide)) rfl (ae_cons (de_keep (v 12)) (ae_cons (de_keep (v 1)) (ae_cons (de_keepX (ge_call (G__law_pair.k hr (by decide)) rfl (ae_cons (de_keep (v 1)) (ae_cons (de_keep (v 13)) ae_nil)) rfl (hms := (mCons_len (mCons_len mNil_len))))) (ae_cons (de_keep (v 8)) ae_nil)))) rfl (hms := (mCons_len (mCons_len (mCons_len (mCons_len mNil_len))))))) ee_bl (nomark _))
    (sse_one (se_ret (ge_e ee_bl)))
    sse_nil))))))
    (sse_one (se_ret (ge_e ee_bl)))))))))))))))))
theorem cal__law_right {P : Program} {w : World} {K : PySem.W.Frag} {mg : Str → Option Value} {base : Heap} (Dx : DefAt K mg "_law_right" s__law_right ["hand"]) (Z : Zs K mg) (G_same_double : Cal P w K mg base "same_double" 4 F_same_double 7) (G__law_pair : Cal P w K mg base "_law_pair" 2 F__law_pair 2) (G__law_two : Cal P w K mg base "_law_two" 2 F__law_two 2) (G__law_word : Cal P w K mg base "_law_word" 2 F__law_word 3) (G__law_power : Cal P w K mg base "_law_power" 1 F__law_power 1) (G_double_root : Cal P w K mg base "double_root" 2 F_double_root 7) (G_double_divided : Cal P w K mg base "double_divided" 3 F_double_divided 7) (G_double_product : Cal P w K mg base "double_product" 3 F_double_product 7) (G__law_sums_right : Cal P w K mg base "_law_sums_right" 4 F__law_sums_right 8) (G__law_draw : Cal P w K mg base "_law_draw" 2 F__law_draw 1) (G__law_width : Cal P w K mg base "_law_width" 1 F__law_width 3) : Cal P w K mg base "_law_right" 1 F__law_right 9 :=
  have h : Cal P w K mg base "_law_right" (["hand"] : List Str).length (fnM (["hand", "width", "one", "other", "top", "half", "first", "second", "word", "root", "rest", "left", "reading", "number", "mine", "pair"] : List Str).length m__law_right) (8 + 1) := cal_of Dx sc__law_right (by decide) (k := 8) (m := m__law_right) fun f fd cdv A outer s H B E hr nd => body__law_right Z G_same_double G__law_pair G__law_two G__law_word G__law_power G_double_root G_double_divided G_double_product G__law_sums_right G__law_draw G__law_width f cdv A outer s H B E hr nd
  h
abbrev s_law : Stmt := topS 45
theorem sc_law : FnScope ["script", "hand", "turn"] ["script"] (defScope s_law) := ⟨rfl, rfl, rfl, by decide +kernel, rfl, by decide +kernel, by decide +kernel⟩
def m_law : MoS :=
  (mSeq (mSet 1 (mX (mLive (mCall F__law_hand (mCons (mKeep (mVar 0)) mNil)))))
    (mSeq (mIfS (mOr (mTest (mOp2 fNe (mFz (mCall F_double_sum (mCons (mKeep (mC (.int 4))) (mCons (mKeep (mTup (mCons (mKeep (mC (.int 0))) (mCons (mKeep (mC (.int 15))) mNil)))) (mCons (mKeep (mTup (mCons (mKeep (mC (.int 0))) (mCons (mKeep (mC (.int 1))) mNil)))) mNil))))) (mTup (mCons (mKeep (mTup (mCons (mKeep (mC (.int 1))) (mCons (mKeep (mC (.int 0))) mNil)))) (mCons (mKeep (mC (.int 0))) mNil))))) (mTest (mOp2 fNe (mFz (mCall F_double_difference (mCons (mKeep (mC (.int 4))) (mCons (mKeep (mTup (mCons (mKeep (mC (.int 0))) (mCons (mKeep (mC (.int 0))) mNil)))) (mCons (mKeep (mTup (mCons (mKeep (mC (.int 0))) (mCons (mKeep (mC (.int 1))) mNil)))) mNil))))) (mTup (mCons (mKeep (mTup (mCons (mKeep (mC (.int 15))) (mCons (mKeep (mC (.int 15))) mNil)))) (mCons (mKeep (mC (.int 1))) mNil))))))
    (mRet (mX (mC (.bl false))))
    mSkip)
    (mSeq (mIfS (mOr (mTest (mOp2 fNe (mFz (mCall F_double_root (mCons (mKeep (mC (.int 4))) (mCons (mKeep (mTup (mCons (mKeep (mC (.int 1))) (mCons (mKeep (mC (.int 2))) mNil)))) mNil)))) (mTup (mCons (mKeep (mC (.int 4))) (mCons (mKeep (mTup (mCons (mKeep (mC (.int 0))) (mCons (mKeep (mC (.int 2))) mNil)))) mNil))))) (mTest (mOp2 fNe (mFz (mCall F_double_places (mCons (mKeep (mC (.int 4))) (mCons (mKeep (mTup (mCons (mKeep (mC (.int 0))) (mCons (mKeep (mC (.int 0))) mNil)))) mNil)))) (mTup (mCons (mKeep (mOp1 (i1 fun i => -i) (mC (.int 1)))) (mCons (mKeep (mC (.int 8))) mNil))))))
    (mRet (mX (mC (.bl false))))
    mSkip)
    (mRet (mCB fAll (vCons (mFz (mLc (mRg1 (mCons (mKeep (mC (.int 6))) mNil)) (gN 2) mYes (mKeepX (mCall F__law_right (mCons (mKeep (mVar 1)) mNil))) [2])) vNil))))))
def F_law : Fm := fnM 3 m_law
theorem body_law {P : Program} {w : World} {K : PySem.W.Frag} {mg : Str → Option Value} {base : Heap} (Z : Zs K mg) (G__law_right : Cal P w K mg base "_law_right" 1 F__law_right 9) (G_double_root : Cal P w K mg base "double_root" 2 F_double_root 7) (G_double_places : Cal P w K mg base "double_places" 2 F_double_places 7) (G_double_sum : Cal P w K mg base "double_sum" 3 F_double_sum 7) (G_double_difference : Cal P w K mg base "double_difference" 3 F_double_difference 7) (G__law_hand : Cal P w K mg base "_law_hand" 1 F__law_hand 1) (f : Addr) (cdv : Value) (A : Around) (outer : List Env) (s : Shared) (H : Hp) (B : Bs) (E : XK) (hr : L2.Room 9 (A.deeper (envOfC "law" (defScope s_law) s.heap.objs.size f cdv))) (nd : Fact' (["script", "hand", "turn"] : List Str).Nodup) :
    SSE (cxD P w K mg base ["script", "hand", "turn"] "law" (defScope s_law) f cdv A outer s H E) ⟨⟨K, mg⟩, (["script", "hand", "turn"] : List Str).length, B, H⟩ (WD E) (defBody s_law) m_law := by
  have hu := hr.units
  have hu5 := hr.units5
  exact (sse_cons (st 1 (ge_e (ee_live (ge_call (G__law_hand.k hr (by decide)) rfl (ae_cons (de_keep (v 0)) ae_nil) rfl (hms := (mCons_len mNil_len))))))
    (sse_cons (se_if (te_w (we_or (te_cmp (ok_ne hu) (ee_fz (ge_call (G_double_sum.k hr (by decide)) rfl (ae_cons (de_keep ee_int) (ae_cons (de_keep (ee_tup (ae_cons (de_keep ee_int) (ae_cons (de_keep ee_int) ae_nil)))) (ae_cons (de_keep (ee_tup (ae_cons (de_keep ee_int) (ae_cons (de_keep ee_int) ae_nil)))) ae_nil))) rfl (hms := (mCons_len (mCons_len (mCons_len mNil_len)))))) (ee_tup (ae_cons (de_keep (ee_tup (ae_cons (de_keep ee_int) (ae_cons (de_keep ee_int) ae_nil)))) (ae_cons (de_keep ee_int) ae_nil))) (nomark _)) (we_or1 (te_cmp (ok_ne hu) (ee_fz (ge_call (G_double_difference.k hr (by decide)) rfl (ae_cons (de_keep ee_int) (ae_cons (de_keep (ee_tup (ae_cons (de_keep ee_int) (ae_cons (de_keep ee_int) ae_nil)))) (ae_cons (de_keep (ee_tup (ae_cons (de_keep ee_int) (ae_cons (de_keep ee_int) ae_nil)))) ae_nil))) rfl (hms := (mCons_len (mCons_len (mCons_len mNil_len)))))) (ee_tup (ae_cons (de_keep (ee_tup (ae_cons (de_keep ee_int) (ae_cons (de_keep ee_int) ae_nil)))) (ae_cons (de_keep ee_int) ae_nil))) (nomark _)))))
    (sse_one (se_ret (ge_e ee_bl)))
    sse_nil)
    (sse_cons (se_if (te_w (we_or (te_cmp (ok_ne hu) (ee_fz (ge_call (G_double_root.k hr (by decide)) rfl (ae_cons (de_keep ee_int) (ae_cons (de_keep (ee_tup (ae_cons (de_keep ee_int) (ae_cons (de_keep ee_int) ae_nil)))) ae_nil)) rfl (hms := (mCons_len (mCons_len mNil_len))))) (ee_tup (ae_cons (de_keep ee_int) (ae_cons (de_keep (ee_tup (ae_cons (de_keep ee_int) (ae_cons (de_keep ee_int) ae_nil)))) ae_nil))) (nomark _)) (we_or1 (te_cmp (ok_ne hu) (ee_fz (ge_call (G_double_places.k hr (by decide)) rfl (ae_cons (de_keep ee_int) (ae_cons (de_keep (ee_tup (ae_cons (de_keep ee_int) (ae_cons (de_keep ee_int) ae_nil)))) ae_nil)) rfl (hms := (mCons_len (mCons_len mNil_len))))) (ee_tup (ae_cons (de_keep (ee_op1 ok_neg ee_int)) (ae_cons (de_keep ee_int) ae_nil))) (nomark _)))))
    (sse_one (se_ret (ge_e ee_bl)))
    sse_nil)
    (sse_one (se_ret (ge_callB ok_all rfl Z.z_all (by decide +kernel) (ve_cons (ee_fz (ge_lc (own := [("turn", 2)]) (ie_range1 rfl Z.z_range (ae_cons (de_keep ee_int) ae_nil)) (blkOk_by (by kernel_rfl)) (fun _ _ _ _ _ => (tn 2)) (fun _ _ _ _ _ => tt_nil) (fun _ _ _ _ _ => (de_keepX (ge_call (fnkB (G__law_right.k hr (by decide))) rfl (ae_cons (de_keep (v 1)) ae_nil) rfl (hms := (mCons_len mNil_len))))))) ve_nil)))))))
theorem cal_law {P : Program} {w : World} {K : PySem.W.Frag} {mg : Str → Option Value} {base : Heap} (Dx : DefAt K mg "law" s_law ["script"]) (Z : Zs K mg) (G__law_right : Cal P w K mg base "_law_right" 1 F__law_right 9) (G_double_root : Cal P w K mg base "double_root" 2 F_double_root 7) (G_double_places : Cal P w K mg base "double_places" 2 F_double_places 7) (G_double_sum : Cal P w K mg base "double_sum" 3 F_double_sum 7) (G_double_difference : Cal P w K mg base "double_difference" 3 F_double_difference 7) (G__law_hand : Cal P w K mg base "_law_hand" 1 F__law_hand 1) : Cal P w K mg base "law" 1 F_law 10 :=
  have h : Cal P w K mg base "law" (["script"] : List Str).length (fnM (["script", "hand", "turn"] : List Str).length m_law) (9 + 1) := cal_of Dx sc_law (by decide) (k := 9) (m := m_law) fun f fd cdv A outer s H B E hr nd => body_law Z G__law_right G_double_root G_double_places G_double_sum G_double_difference G__law_hand f cdv A outer s H B E hr nd
  h
end Law
namespace Law
open PySem PySem.Spec PyProof.Rows L2 Y
theorem e_is_integer (i : Int) (g : G) : F_is_integer [.int i] g = .ok (.d (.bl true)) g := by
  simp [F_is_integer, m_is_integer]
theorem e_is_within (i a b : Int) (g : G) : F_is_within [.int i, .int a, .int b] g = .ok (.d (.bl (decide (a ≤ i) && decide (i ≤ b)))) g := by
  by_cases h : a ≤ i <;> simp [F_is_within, m_is_within, e_is_integer, h]
def mx1 (m n : Int) : Int := (m + 7877 * n) * 69621 % 2147483647
def mx2 (x : Int) : Int := x * (x / 1103 + 40692) % 2147483399
def mx3 (x : Int) : Int := x * (x / 2311 + 48271) % 2147483629
theorem draw_ok {g : G} {k : Int} (hg : HandOk g) (h0 : 0 < k) (h1 : k ≤ 1606938044258990275541962092341162602522202993782792835301376) : ∃ r g', F__law_draw [.live 0, .int k] g = .ok (.d (.int r)) g' ∧ HandOk g' ∧ 0 ≤ r ∧ r < k := by
  obtain ⟨cs, p, l, m, n, rfl, hc, hp, hl⟩ := hg
  have hk : ∀ i, divC i k = true := fun i => divC_of h0 h1
  have tail : ∀ m n : Int, 0 ≤ mx1 m n ∧ mx1 m n < 2147483647 ∧ 0 ≤ mx2 (mx1 m n) ∧ mx2 (mx1 m n) < 2147483399 := fun m n => ⟨(pos_mod (by decide)).1, (pos_mod (by decide)).2, (pos_mod (by decide)).1, (pos_mod (by decide)).2⟩
  have hd : ∀ i, divC i 1103 = true := fun i => divC_of (by decide) (by decide)
  have hd2 : ∀ i, divC i 2311 = true := fun i => divC_of (by decide) (by decide)
  have hd3 : ∀ i, divC i 16 = true := fun i => divC_of (by decide) (by decide)
  by_cases hl0 : l = 0
  · subst hl0
    by_cases hpc : p < cs.length
    · obtain ⟨c, hcm, hat⟩ := cellsOf_at hp hpc
      have hc0 := hc c hcm
      by_cases hbig : (1000000000000000000 : Int) ≤ c
      · have hcp : (0 : Int) < c := by omega
        refine ⟨c % k, [.l [.lst (cellsOf cs), .int (p + 1), .int (c / k), .int ((m * 48271 + c * 5 + 29) % 2147483587), .int n]], ?_, ⟨cs, _, _, _, _, rfl, hc, by omega, Int.ediv_nonneg hc0 (by omega)⟩, pos_mod h0⟩
        simp [F__law_draw, m__law_draw, hat, hpc, hbig, hcp, mulC_l, mulC_r, powC_of, h0, hk, atI_of, ixN]
      · obtain ⟨t1, t2, t3, t4⟩ := tail ((m * 48271 + c * 5 + 29) % 2147483587) (n + 1)
        refine ⟨mx3 (mx2 (mx1 ((m * 48271 + c * 5 + 29) % 2147483587) (n + 1))) / 16 % k, [.l [.lst (cellsOf cs), .int (p + 1), .int 0, .int ((m * 48271 + c * 5 + 29) % 2147483587), .int (n + 1)]], ?_, ⟨cs, _, _, _, _, rfl, hc, by omega, by omega⟩, pos_mod h0⟩
        generalize e1 : mx1 ((m * 48271 + c * 5 + 29) % 2147483587) (n + 1) = y1 at *
        generalize e2 : mx2 y1 = y2 at *
        have hm1 : ∀ j, mulC y1 j = true := fun j => mulC_l (by omega) (by omega)
        have hm2 : ∀ j, mulC y2 j = true := fun j => mulC_l (by omega) (by omega)
        unfold mx1 at e1
        unfold mx2 at e2
        simp [F__law_draw, m__law_draw, hat, hpc, hbig, mulC_l, mulC_r, powC_of, h0, hk, atI_of, ixN, hd, hd2, hd3, e1, e2, mx3, hm1, hm2]
    · obtain ⟨t1, t2, t3, t4⟩ := tail m (n + 1)
      refine ⟨mx3 (mx2 (mx1 m (n + 1))) / 16 % k, [.l [.lst (cellsOf cs), .int p, .int 0, .int m, .int (n + 1)]], ?_, ⟨cs, _, _, _, _, rfl, hc, by omega, by omega⟩, pos_mod h0⟩
      generalize e1 : mx1 m (n + 1) = y1 at *
      generalize e2 : mx2 y1 = y2 at *
      have hm1 : ∀ j, mulC y1 j = true := fun j => mulC_l (by omega) (by omega)
      have hm2 : ∀ j, mulC y2 j = true := fun j => mulC_l (by omega) (by omega)
      unfold mx1 at e1
      unfold mx2 at e2
      simp [F__law_draw, m__law_draw, hpc, mulC_l, mulC_r, powC_of, h0, hk, atI_of, ixN, hd, hd2, hd3, e1, e2, mx3, hm1, hm2]
  · have hl1 : 0 < l := by omega
    refine ⟨l % k, [.l [.lst (cellsOf cs), .int p, .int (l / k), .int m, .int n]], ?_, ⟨cs, _, _, _, _, rfl, hc, by omega, Int.ediv_nonneg hl (by omega)⟩, pos_mod h0⟩
    simp [F__law_draw, m__law_draw, hl0, hl1, h0, hk, atI_of, ixN]
theorem hand_ok {ns : List Int} (h : ns.length ≤ 63) (g : G) : ∃ cs m, F__law_hand [.scr ns] g = .ok (.f (.l [.lst (cellsOf cs), .int 0, .int 0, .int m, .int 0])) g ∧ ∀ c ∈ cs, 0 ≤ c := by
  have hcut : cutL (ns.map D.int) none (some 63) = ns.map D.int := by
    have e1 : HT.sIx (ns.map D.int).length 0 none = 0 := by simp [HT.sIx]
    have e2 : HT.sIx (ns.map D.int).length (ns.map D.int).length (some 63) = 63 ∨ HT.sIx (ns.map D.int).length (ns.map D.int).length (some 63) = ns.length := by
      simp [HT.sIx]
      omega
    unfold cutL
    rw [e1, List.drop_zero, Nat.sub_zero]
    rcases e2 with e2 | e2 <;> rw [e2] <;> exact List.take_of_length_le (by simp <;> omega)
  obtain ⟨ds, st', e, hp, hi⟩ := lc_inv (g := gN 2) (mt := mYes) (me := mKeepX (mCB fAbs (vCons (mFz (mCB fInt (vCons (mVar 2) vNil))) vNil))) (own := [2]) (fun st => st = ⟨[some (.d (.scr ns)), none, none], g⟩) (fun x y => ∃ i : Int, y = .int i ∧ 0 ≤ i) (ns.map D.int) [] ⟨[some (.d (.scr ns)), none, none], g⟩ rfl (by
    intro x hx st e
    subst e
    obtain ⟨i, _, rfl⟩ := List.mem_map.mp hx
    refine ⟨⟨[some (.d (.scr ns)), none, some (.d (.int i))], g⟩, ⟨[some (.d (.scr ns)), none, some (.d (.int i))], g⟩, .int i.natAbs, ⟨[some (.d (.scr ns)), none, some (.d (.int i))], g⟩, rfl, rfl, by
      have e : (if i < 0 then -i else i) = (i.natAbs : Int) := by split <;> omega
      simp [e], ⟨i.natAbs, rfl, by omega⟩, rfl⟩) (by simp [lim]; omega)
  subst hi
  have hcs : ∃ cs : List Int, ds = cellsOf cs ∧ ∀ c ∈ cs, 0 ≤ c := by
    clear e hcut h
    generalize ns.map D.int = xs at hp
    induction hp with
    | nil => exact ⟨[], rfl, by simp⟩
    | cons h1 _ ih =>
      obtain ⟨i, rfl, hi⟩ := h1
      obtain ⟨cs, rfl, hc⟩ := ih
      exact ⟨i :: cs, rfl, fun c hc' => by
        rcases List.mem_cons.mp hc' with rfl | h
        · exact hi
        · exact hc c h⟩
  obtain ⟨cs, rfl, hc⟩ := hcs
  rw [List.nil_append] at e
  have e' : lcL (gN 2) mYes (mKeepX (mCB fAbs (vCons (mFz (mCB fInt (vCons (mVar 2) vNil))) vNil))) [2] (ns.map D.int) [] ⟨[some (.d (.scr ns)), none, none], g⟩ = .ok (cellsOf cs) ⟨[some (.d (.scr ns)), none, none], g⟩ := e
  refine ⟨cs, 2153 + 193 * cs.length, ?_, hc⟩
  simp [F__law_hand, m__law_hand, hcut, e', lim, mulC_l]
theorem some_ok {g : G} {xs : List D} (hg : HandOk g) (h0 : 0 < xs.length) (h1 : xs.length ≤ 1000) : ∃ x g', F__law_some [.live 0, .lst xs] g = .ok (.d x) g' ∧ HandOk g' ∧ x ∈ xs := by
  obtain ⟨r, g', e, hg', hr0, hr1⟩ := draw_ok hg (k := xs.length) (by omega) (by omega)
  have hr : r.toNat < xs.length := by omega
  refine ⟨xs[r.toNat], g', ?_, hg', List.getElem_mem _⟩
  simp [F__law_some, m__law_some, e, atI_of hr0, List.getElem?_eq_getElem hr]
end Law
namespace Law
open PySem PySem.Spec PyProof.Rows L2 Y
theorem power_loop (n : Nat) (g : G) : mForL (gN 2) (mSet 1 (mX (mOp2 (iC mulC fun i j => i * j) (mC (.int 2)) (mVar 1)))) [2] (rgD 0 n) ⟨[some (.d (.int n)), some (.d (.int 1)), none], g⟩ = .nx ⟨[some (.d (.int n)), some (.d (.int (2 ^ n))), none], g⟩ := by
  obtain ⟨st', e, hi⟩ := for_inv (g := gN 2) (body := mSet 1 (mX (mOp2 (iC mulC fun i j => i * j) (mC (.int 2)) (mVar 1)))) (wp := [2]) (fun k st => st = ⟨[some (.d (.int n)), some (.d (.int (2 ^ k))), none], g⟩) (rgD 0 n) 0 ⟨[some (.d (.int n)), some (.d (.int 1)), none], g⟩ rfl (by
    intro j x st hx e
    subst e
    refine ⟨⟨[some (.d (.int n)), some (.d (.int (2 ^ (0 + j)))), some (.d x)], g⟩, ⟨[some (.d (.int n)), some (.d (.int (2 ^ (0 + j + 1)))), some (.d x)], g⟩, rfl, ?_, rfl⟩
    have h : ∀ i, mulC 2 i = true := fun i => mulC_l (by decide) (by decide)
    simp [h, Int.pow_succ, Int.mul_comm])
  rw [rgD_len, Nat.zero_add] at hi
  rw [e, hi]
theorem power_ok (n : Nat) (hn : n ≤ 10000) (g : G) : F__law_power [.int n] g = .ok (.d (.int (2 ^ n))) g := by
  have e := power_loop n g
  have h2 : inR (n : Int) = true := inR_of (by omega) (by omega)
  have h3 : (n : Int).toNat = n := by omega
  simp only [F__law_power, m__law_power]
  simp [h2, e]
end Law
namespace Law
open PySem PySem.Spec PyProof.Rows L2 Y
theorem bnd {n : Nat} (h : n ≤ 64) : (2 : Int) ^ n ≤ 18446744073709551616 := by
  have := two_le h
  simpa using this
theorem smw {a : Int} {n : Nat} (h : n ≤ 64) (a0 : 0 ≤ a) (a1 : a < 2 ^ n) : sm a = true := sm_of (by omega) (by have := bnd h; omega)
theorem shlw {a : Int} {n : Nat} (m : Nat) (hm : m ≤ 10000) (h : n ≤ 64) (a0 : 0 ≤ a) (a1 : a < 2 ^ n) : shlC a m = true := shlC_of (by omega) (by omega) (smw h a0 a1)
theorem shl1 {n : Nat} (h : n ≤ 10000) : shlC 1 n = true := shlC_of (by omega) (by omega) (sm_of (by decide) (by decide))
theorem shl12 {n : Nat} (h : n ≤ 64) : shlC 1 (2 * (n : Int)) = true := shlC_of (by omega) (by omega) (sm_of (by decide) (by decide))
theorem shl200 : shlC 1 200 = true := shlC_of (by decide) (by decide) (sm_of (by decide) (by decide))
theorem mul2 (i : Int) : mulC 2 i = true := mulC_l (by decide) (by decide)
theorem e_within_t {i a b : Int} (h1 : a ≤ i) (h2 : i ≤ b) (g : G) : F_is_within [.int i, .int a, .int b] g = .ok (.d (.bl true)) g := by
  rw [e_is_within, decide_eq_true h1, decide_eq_true h2]
  rfl
theorem e_check_width {n : Nat} (h1 : 1 ≤ n) (h2 : n ≤ 64) (g : G) : F_check_width [.int n] g = .ok (.d .non) g := by
  have e := e_within_t (i := n) (a := 1) (b := 64) (by omega) (by omega) g
  simp [F_check_width, m_check_width, k_MOST_WIDTH, e]
theorem e_is_word {n : Nat} (h1 : 1 ≤ n) (h2 : n ≤ 64) {x : Int} (x0 : 0 ≤ x) (x1 : x < 2 ^ n) (g : G) : F_is_word [.int n, .int x] g = .ok (.d (.bl true)) g := by
  have e := e_within_t (i := x) (a := 0) (b := 2 ^ n - 1) (by omega) (by omega) g
  simp [F_is_word, m_is_word, e_check_width h1 h2, e, shl1 (show n ≤ 10000 by omega)]
theorem e_check_word {n : Nat} (h1 : 1 ≤ n) (h2 : n ≤ 64) {x : Int} (x0 : 0 ≤ x) (x1 : x < 2 ^ n) (g : G) : F_check_word [.int n, .int x] g = .ok (.d .non) g := by
  simp [F_check_word, m_check_word, e_is_word h1 h2 x0 x1]
theorem e_check_double {n : Nat} (h1 : 1 ≤ n) (h2 : n ≤ 64) {a b : Int} (a0 : 0 ≤ a) (a1 : a < 2 ^ n) (b0 : 0 ≤ b) (b1 : b < 2 ^ n) (g : G) : F_check_double [.int n, .tup [.int a, .int b]] g = .ok (.d .non) g := by
  simp [F_check_double, m_check_double, e_check_word h1 h2 a0 a1, e_check_word h1 h2 b0 b1, e_check_word h1 h2 (Int.le_refl 0) (two_pos n), atI_of, k_MOST_WIDTH]
/-- a pair of words of a number -/
def PP (n : Nat) (N : Int) : D := .tup [.int (N % (2 ^ n * 2 ^ n) / 2 ^ n), .int (N % (2 ^ n * 2 ^ n) % 2 ^ n)]
theorem pp_of {n : Nat} {X y : Int} (y0 : 0 ≤ y) (y1 : y < 2 ^ n) : PP n (X * 2 ^ n + y) = .tup [.int (X % 2 ^ n), .int y] := by
  unfold PP
  rw [hl_hi2 y0 y1, hl_lo2 y0 y1]
theorem pp_self {n : Nat} {a b : Int} (a0 : 0 ≤ a) (a1 : a < 2 ^ n) (b0 : 0 ≤ b) (b1 : b < 2 ^ n) : PP n (a * 2 ^ n + b) = .tup [.int a, .int b] := by
  rw [pp_of b0 b1, Int.emod_eq_of_lt a0 a1]
theorem e_whole {n : Nat} (h1 : 1 ≤ n) (h2 : n ≤ 64) {a b : Int} (a0 : 0 ≤ a) (a1 : a < 2 ^ n) (b0 : 0 ≤ b) (b1 : b < 2 ^ n) (g : G) : F_whole [.int n, .tup [.int a, .int b]] g = .ok (.d (.int (a * 2 ^ n + b))) g := by
  simp [F_whole, m_whole, e_check_double h1 h2 a0 a1 b0 b1, atI_of, shlw n (by omega) h2 a0 a1, or_low a0 b0 b1]
theorem e_split {n : Nat} (h1 : 1 ≤ n) (h2 : n ≤ 64) (N : Int) (g : G) : F_split [.int n, .int N] g = .ok (.d (PP n N)) g := by
  have hp := two_pos n
  have hq : (0 : Int) < 2 ^ n * 2 ^ n := Int.mul_pos hp hp
  simp [F_split, m_split, shl12 h2, shl1 (show n ≤ 10000 by omega), mul2, two_two, hp, hq, PP, lim]
theorem e_double_of {n : Nat} (h1 : 1 ≤ n) (h2 : n ≤ 64) {N : Int} (b1 : -1606938044258990275541962092341162602522202993782792835301376 ≤ N) (b2 : N ≤ 1606938044258990275541962092341162602522202993782792835301376) (g : G) : F_double_of [.int n, .int N] g = .ok (.d (PP n N)) g := by
  simp [F_double_of, m_double_of, e_check_word h1 h2 (Int.le_refl 0) (two_pos n), shl200, e_within_t b1 b2, e_split h1 h2]
theorem b_low {n : Nat} {b d : Int} : b + d = (b + d) / 2 ^ n * 2 ^ n + (b + d) % 2 ^ n := by
  have := Int.emod_add_mul_ediv (b + d) (2 ^ n)
  rw [Int.mul_comm] at this
  omega
theorem e_double_sum {n : Nat} (h1 : 1 ≤ n) (h2 : n ≤ 64) {a b c d : Int} (a0 : 0 ≤ a) (a1 : a < 2 ^ n) (b0 : 0 ≤ b) (b1 : b < 2 ^ n) (c0 : 0 ≤ c) (c1 : c < 2 ^ n) (d0 : 0 ≤ d) (d1 : d < 2 ^ n) (g : G) :
    F_double_sum [.int n, .tup [.int a, .int b], .tup [.int c, .int d]] g = .ok (.d (.tup [PP n (a * 2 ^ n + b + (c * 2 ^ n + d)), .int (if 2 ^ n * 2 ^ n ≤ a * 2 ^ n + b + (c * 2 ^ n + d) then 1 else 0)])) g := by
  have hp := two_pos n
  have e := b_low (n := n) (b := b) (d := d)
  obtain ⟨m0, m1⟩ := pos_mod (a := b + d) hp
  have hX : a * 2 ^ n + b + (c * 2 ^ n + d) = (a + c + (b + d) / 2 ^ n) * 2 ^ n + (b + d) % 2 ^ n := by
    rw [Int.add_mul, Int.add_mul]
    omega
  have hk0 : 0 ≤ (b + d) / 2 ^ n := Int.ediv_nonneg (by omega) (by omega)
  have hk1 : (b + d) / 2 ^ n ≤ 1 := by
    have : (b + d) / 2 ^ n < 2 := Int.ediv_lt_of_lt_mul hp (by omega)
    omega
  have hc : (a + c + (b + d) / 2 ^ n) / 2 ^ n = if 2 ^ n * 2 ^ n ≤ a * 2 ^ n + b + (c * 2 ^ n + d) then 1 else 0 := by
    have hX0 : 0 ≤ a + c + (b + d) / 2 ^ n := by omega
    have hX1 : a + c + (b + d) / 2 ^ n < 2 * 2 ^ n := by omega
    rw [hX]
    generalize (a + c + (b + d) / 2 ^ n) = X at *
    generalize (b + d) % 2 ^ n = y at *
    by_cases h : 2 ^ n ≤ X
    · have := Int.mul_le_mul_of_nonneg_right h (Int.le_of_lt hp)
      rw [if_pos (by omega)]
      have e2 : X = (X - 2 ^ n) + 1 * 2 ^ n := by omega
      rw [e2, Int.add_mul_ediv_right _ _ (by omega), Int.ediv_eq_zero_of_lt (by omega) (by omega)]
      rfl
    · have h' : X + 1 ≤ 2 ^ n := by omega
      have := Int.mul_le_mul_of_nonneg_right h' (Int.le_of_lt hp)
      rw [Int.add_mul] at this
      rw [if_neg (by omega), Int.ediv_eq_zero_of_lt (by omega) (by omega)]
  rw [hX, pp_of m0 m1, ← hX, ← hc]
  simp [F_double_sum, m_double_sum, e_check_double h1 h2 a0 a1 b0 b1, e_check_double h1 h2 c0 c1 d0 d1, atI_of, shl1 (show n ≤ 10000 by omega), hp, lim]
theorem e_double_difference {n : Nat} (h1 : 1 ≤ n) (h2 : n ≤ 64) {a b c d : Int} (a0 : 0 ≤ a) (a1 : a < 2 ^ n) (b0 : 0 ≤ b) (b1 : b < 2 ^ n) (c0 : 0 ≤ c) (c1 : c < 2 ^ n) (d0 : 0 ≤ d) (d1 : d < 2 ^ n) (g : G) :
    F_double_difference [.int n, .tup [.int a, .int b], .tup [.int c, .int d]] g = .ok (.d (.tup [PP n (a * 2 ^ n + b - (c * 2 ^ n + d)), .int (if a * 2 ^ n + b < c * 2 ^ n + d then 1 else 0)])) g := by
  have hp := two_pos n
  have hX : ∃ k : Int, (if b - d < 0 then 1 else 0) = k ∧ a * 2 ^ n + b - (c * 2 ^ n + d) = (a - c - k) * 2 ^ n + (b - d) % 2 ^ n := by
    by_cases h : b - d < 0
    · refine ⟨1, if_pos h, ?_⟩
      have e : (b - d) % 2 ^ n = b - d + 2 ^ n := by
        rw [← Int.add_emod_right]
        exact Int.emod_eq_of_lt (by omega) (by omega)
      rw [e, Int.sub_mul, Int.sub_mul]
      omega
    · refine ⟨0, if_neg h, ?_⟩
      rw [Int.emod_eq_of_lt (by omega) (by omega), Int.sub_mul, Int.sub_mul]
      omega
  obtain ⟨k, hk, hX⟩ := hX
  obtain ⟨m0, m1⟩ := pos_mod (a := b - d) hp
  have hc : (if a * 2 ^ n + b < c * 2 ^ n + d then (1 : Int) else 0) = if a - c - k < 0 then 1 else 0 := by
    by_cases h : a - c - k < 0
    · have h' : a - c - k + 1 ≤ 0 := by omega
      have := Int.mul_le_mul_of_nonneg_right h' (Int.le_of_lt hp)
      rw [Int.add_mul] at this
      rw [if_pos h, if_pos (by omega)]
    · have := Int.mul_nonneg (show 0 ≤ a - c - k by omega) (Int.le_of_lt hp)
      rw [if_neg h, if_neg (by omega)]
  rw [hX, pp_of m0 m1, hc]
  simp [F_double_difference, m_double_difference, e_check_double h1 h2 a0 a1 b0 b1, e_check_double h1 h2 c0 c1 d0 d1, atI_of, shl1 (show n ≤ 10000 by omega), hp, lim, hk]
theorem e_double_turned {n : Nat} (h1 : 1 ≤ n) (h2 : n ≤ 64) {a b : Int} (a0 : 0 ≤ a) (a1 : a < 2 ^ n) (b0 : 0 ≤ b) (b1 : b < 2 ^ n) (g : G) :
    F_double_turned [.int n, .tup [.int a, .int b]] g = .ok (.d (PP n (0 - (a * 2 ^ n + b)))) g := by
  have hp := two_pos n
  have hX : ∃ l : Int, (2 ^ n - 1 - b + 1) % 2 ^ n = l ∧ 0 ≤ l ∧ l < 2 ^ n ∧ ∃ k : Int, (if l = 0 then 1 else 0) = k ∧ 0 - (a * 2 ^ n + b) = (k - 1 - a) * 2 ^ n + l := by
    refine ⟨_, rfl, (pos_mod hp).1, (pos_mod hp).2, _, rfl, ?_⟩
    by_cases h : b = 0
    · subst h
      have e : (2 ^ n - 1 - 0 + 1 : Int) % 2 ^ n = 0 := by
        rw [show (2 ^ n - 1 - 0 + 1 : Int) = 2 ^ n by omega, Int.emod_self]
      rw [e, if_pos rfl, Int.sub_mul, Int.sub_mul]
      omega
    · have e : (2 ^ n - 1 - b + 1 : Int) % 2 ^ n = 2 ^ n - b := by
        rw [show (2 ^ n - 1 - b + 1 : Int) = 2 ^ n - b by omega]
        exact Int.emod_eq_of_lt (by omega) (by omega)
      rw [e, if_neg (by omega), Int.sub_mul, Int.sub_mul]
      omega
  obtain ⟨l, hl, l0, l1, k, hk, e⟩ := hX
  have e2 : (k - 1 - a) % 2 ^ n = (2 ^ n - 1 - a + k) % 2 ^ n := by
    rw [← Int.add_emod_right (k - 1 - a)]
    congr 1
    omega
  rw [e, pp_of l0 l1, e2]
  simp [F_double_turned, m_double_turned, e_check_double h1 h2 a0 a1 b0 b1, atI_of, shl1 (show n ≤ 10000 by omega), hp, lim, hl, hk]
theorem e_check_steps {n : Nat} {s : Int} (s0 : 0 ≤ s) (s1 : s ≤ 2 * n) (g : G) : F_check_steps [.int n, .int s] g = .ok (.d .non) g := by
  simp [F_check_steps, m_check_steps, mul2, e_within_t s0 s1]
theorem e_double_up {n : Nat} (h1 : 1 ≤ n) (h2 : n ≤ 64) {a b : Int} (a0 : 0 ≤ a) (a1 : a < 2 ^ n) (b0 : 0 ≤ b) (b1 : b < 2 ^ n) {s : Nat} (s1 : s ≤ 2 * n) (g : G) :
    F_double_up [.int n, .tup [.int a, .int b], .int s] g = .ok (.d (PP n ((a * 2 ^ n + b) * 2 ^ s))) g := by
  have hb := bnd h2
  have hF : a * 2 ^ n ≤ 2 ^ n * 2 ^ n := Int.mul_le_mul_of_nonneg_right (by omega) (by omega)
  have hF2 : (2 : Int) ^ n * 2 ^ n ≤ 18446744073709551616 * 18446744073709551616 := Int.mul_le_mul hb hb (by omega) (by omega)
  have hF0 := Int.mul_nonneg a0 (show (0 : Int) ≤ 2 ^ n by omega)
  have hs : shlC (a * 2 ^ n + b) (s : Int) = true := shlC_of (by omega) (by omega) (sm_of (by omega) (by omega))
  simp [F_double_up, m_double_up, e_check_double h1 h2 a0 a1 b0 b1, e_check_steps (n := n) (s := s) (by omega) (by omega), atI_of, shlw n (by omega) h2 a0 a1, or_low a0 b0 b1, hs, e_split h1 h2]
theorem e_double_down {n : Nat} (h1 : 1 ≤ n) (h2 : n ≤ 64) {a b : Int} (a0 : 0 ≤ a) (a1 : a < 2 ^ n) (b0 : 0 ≤ b) (b1 : b < 2 ^ n) {s : Nat} (s1 : s ≤ 2 * n) (g : G) :
    F_double_down [.int n, .tup [.int a, .int b], .int s] g = .ok (.d (PP n ((a * 2 ^ n + b) / 2 ^ s))) g := by
  simp [F_double_down, m_double_down, e_check_double h1 h2 a0 a1 b0 b1, e_check_steps (n := n) (s := s) (by omega) (by omega), atI_of, shlw n (by omega) h2 a0 a1, or_low a0 b0 b1, e_split h1 h2]
end Law
namespace Law
open PySem PySem.Spec PyProof.Rows L2 Y
theorem dn {n : Nat} (h2 : n ≤ 64) (i : Int) : divC i (2 ^ n) = true := divC_of (two_pos n) (by have := bnd h2; omega)
theorem ff_lt {n : Nat} {a b : Int} (a0 : 0 ≤ a) (a1 : a < 2 ^ n) (b0 : 0 ≤ b) (b1 : b < 2 ^ n) : 0 ≤ a * 2 ^ n + b ∧ a * 2 ^ n + b < 2 ^ n * 2 ^ n := by
  have hp := two_pos n
  have h := Int.mul_le_mul_of_nonneg_right (show a + 1 ≤ 2 ^ n by omega) (Int.le_of_lt hp)
  rw [Int.add_mul] at h
  have := Int.mul_nonneg a0 (Int.le_of_lt hp)
  omega
theorem e_law_pair {n : Nat} (h1 : 1 ≤ n) (h2 : n ≤ 64) (N : Int) (g : G) : F__law_pair [.int n, .int N] g = .ok (.d (PP n N)) g := by
  have hp := two_pos n
  have hq : (0 : Int) < 2 ^ n * 2 ^ n := Int.mul_pos hp hp
  have e := power_ok (2 * n) (by omega) g
  rw [two_two, show ((2 * n : Nat) : Int) = 2 * (n : Int) by omega] at e
  simp [F__law_pair, m__law_pair, mul2, e, power_ok n (by omega) g, hp, hq, dn h2, PP, lim]
theorem e_law_two1 {n : Nat} (h1 : 1 ≤ n) (h2 : n ≤ 64) (x : Int) (g : G) : F__law_two [.int n, .int x] g = .ok (.d (.int (if 2 ^ n ≤ 2 * x then x - 2 ^ n else x))) g := by
  by_cases h : (2 : Int) ^ n ≤ 2 * x <;> simp [F__law_two, m__law_two, power_ok n (by omega) g, mul2, h]
theorem e_law_two2 {n : Nat} (h1 : 1 ≤ n) (h2 : n ≤ 64) (x : Int) (g : G) : F__law_two [.int (2 * (n : Int)), .int x] g = .ok (.d (.int (if 2 ^ n * 2 ^ n ≤ 2 * x then x - 2 ^ n * 2 ^ n else x))) g := by
  have e := power_ok (2 * n) (by omega) g
  rw [two_two, show ((2 * n : Nat) : Int) = 2 * (n : Int) by omega] at e
  by_cases h : (2 : Int) ^ n * 2 ^ n ≤ 2 * x <;> simp [F__law_two, m__law_two, e, mul2, h]
/-! ### products -/
theorem e_double_product {n : Nat} (h1 : 1 ≤ n) (h2 : n ≤ 64) {a b c d : Int} (a0 : 0 ≤ a) (a1 : a < 2 ^ n) (b0 : 0 ≤ b) (b1 : b < 2 ^ n) (c0 : 0 ≤ c) (c1 : c < 2 ^ n) (d0 : 0 ≤ d) (d1 : d < 2 ^ n) (g : G) :
    F_double_product [.int n, .tup [.int a, .int b], .tup [.int c, .int d]] g = .ok (.d (.tup [PP n ((a * 2 ^ n + b) * (c * 2 ^ n + d)), .bl (decide ((a * 2 ^ n + b) * (c * 2 ^ n + d) < 2 ^ n * 2 ^ n))])) g := by
  have hp := two_pos n
  have hb := bnd h2
  have hm : ∀ x y : Int, 0 ≤ x → x < 2 ^ n → mulC x y = true := fun x y h0 h1 => mulC_l (by omega) (by omega)
  obtain ⟨m0, m1⟩ := pos_mod (a := b * d) hp
  have e := Int.emod_add_mul_ediv (b * d) (2 ^ n)
  rw [Int.mul_comm (2 ^ n)] at e
  have hX : (a * 2 ^ n + b) * (c * 2 ^ n + d) = (b * d / 2 ^ n + (a * d + b * c) + a * c * 2 ^ n) * 2 ^ n + b * d % 2 ^ n := by
    have e2 : (a * 2 ^ n + b) * (c * 2 ^ n + d) = a * c * 2 ^ n * 2 ^ n + (a * d + b * c) * 2 ^ n + b * d := by grind
    rw [e2, ← e]
    grind
  have hbd := Int.ediv_nonneg (Int.mul_nonneg b0 d0) (Int.le_of_lt hp)
  have had := Int.mul_nonneg a0 d0
  have hbc := Int.mul_nonneg b0 c0
  have hac := Int.mul_nonneg a0 c0
  have hlt : ((a * 2 ^ n + b) * (c * 2 ^ n + d) < 2 ^ n * 2 ^ n) ↔ (a * c = 0 ∧ (b * d / 2 ^ n + (a * d + b * c)) / 2 ^ n = 0) := by
    rw [hX]
    have hM : 0 ≤ b * d / 2 ^ n + (a * d + b * c) := by omega
    generalize b * d / 2 ^ n + (a * d + b * c) = M at *
    generalize b * d % 2 ^ n = y at *
    constructor
    · intro h
      have h3 : a * c = 0 := by
        by_cases z : a * c = 0
        · exact z
        · exfalso
          have z1 := Int.mul_le_mul_of_nonneg_right (show 1 ≤ a * c by omega) (Int.le_of_lt hp)
          have z2 := Int.mul_le_mul_of_nonneg_right (show 2 ^ n ≤ M + a * c * 2 ^ n by omega) (Int.le_of_lt hp)
          omega
      refine ⟨h3, Int.ediv_eq_zero_of_lt hM ?_⟩
      rw [h3, Int.zero_mul, Int.add_zero] at h
      by_cases z : M < 2 ^ n
      · exact z
      · have z2 := Int.mul_le_mul_of_nonneg_right (show 2 ^ n ≤ M by omega) (Int.le_of_lt hp)
        omega
    · rintro ⟨h3, h4⟩
      have h5 := Int.emod_add_mul_ediv M (2 ^ n)
      rw [h4, Int.mul_zero, Int.add_zero] at h5
      have h6 := (pos_mod (a := M) hp).2
      rw [h3, Int.zero_mul, Int.add_zero]
      have z2 := Int.mul_le_mul_of_nonneg_right (show M + 1 ≤ 2 ^ n by omega) (Int.le_of_lt hp)
      rw [Int.add_mul] at z2
      omega
  have hl : (b * d / 2 ^ n + (a * d + b * c) + a * c * 2 ^ n) % 2 ^ n = (b * d / 2 ^ n + (a * d + b * c)) % 2 ^ n := by rw [Int.add_mul_emod_self_right]
  have hdec : decide ((a * 2 ^ n + b) * (c * 2 ^ n + d) < 2 ^ n * 2 ^ n) = (decide (a * c = 0) && decide ((b * d / 2 ^ n + (a * d + b * c)) / 2 ^ n = 0)) := by
    rw [Bool.eq_iff_iff]
    simp only [Bool.and_eq_true, decide_eq_true_eq]
    exact hlt
  rw [hdec, hX, pp_of m0 m1, hl]
  by_cases h : a * c = 0 <;> simp [F_double_product, m_double_product, e_check_double h1 h2 a0 a1 b0 b1, e_check_double h1 h2 c0 c1 d0 d1, atI_of, shl1 (show n ≤ 10000 by omega), hp, lim, hm _ _ a0 a1, hm _ _ b0 b1, h]
theorem e_double_divided {n : Nat} (h1 : 1 ≤ n) (h2 : n ≤ 64) {a b w : Int} (a0 : 0 ≤ a) (a1 : a < 2 ^ n) (b0 : 0 ≤ b) (b1 : b < 2 ^ n) (w0 : 0 < w) (w1 : w < 2 ^ n) (g : G) :
    F_double_divided [.int n, .tup [.int a, .int b], .int w] g = .ok (.d (.tup [PP n ((a * 2 ^ n + b) / w), .int ((a * 2 ^ n + b) % w)])) g := by
  have hp := two_pos n
  have hb := bnd h2
  have hdw : ∀ i, divC i w = true := fun i => divC_of w0 (by omega)
  have hw : ¬ w = 0 := by omega
  obtain ⟨m0, m1⟩ := pos_mod (a := a) w0
  have e := Int.emod_add_mul_ediv a w
  have hF : a * 2 ^ n + b = (a % w * 2 ^ n + b) + w * (a / w * 2 ^ n) := by
    have e3 : a * 2 ^ n = (a % w + w * (a / w)) * 2 ^ n := by rw [e]
    rw [e3, Int.add_mul, Int.mul_assoc]
    omega
  have hL0 : 0 ≤ a % w * 2 ^ n + b := by
    have := Int.mul_nonneg m0 (Int.le_of_lt hp)
    omega
  have hL1 : (a % w * 2 ^ n + b) / w < 2 ^ n := by
    apply Int.ediv_lt_of_lt_mul w0
    have := Int.mul_le_mul_of_nonneg_right (show a % w + 1 ≤ w by omega) (Int.le_of_lt hp)
    rw [Int.add_mul] at this
    rw [Int.mul_comm (2 ^ n) w]
    omega
  have hq : (a * 2 ^ n + b) / w = a / w * 2 ^ n + (a % w * 2 ^ n + b) / w := by
    rw [hF, Int.add_mul_ediv_left _ _ (by omega)]
    omega
  have hr : (a * 2 ^ n + b) % w = (a % w * 2 ^ n + b) % w := by
    rw [hF, Int.add_mul_emod_self_left]
  have haw0 := Int.ediv_nonneg a0 (Int.le_of_lt w0)
  have haw1 : a / w ≤ a := Int.ediv_le_self w a0
  rw [hq, hr, pp_self haw0 (by omega) (Int.ediv_nonneg hL0 (Int.le_of_lt w0)) hL1]
  simp [F_double_divided, m_double_divided, e_check_double h1 h2 a0 a1 b0 b1, e_check_word h1 h2 (show 0 ≤ w by omega) w1, atI_of, hw, hdw, w0, shlw n (by omega) h2 m0 (show a % w < 2 ^ n by omega), or_low m0 b0 b1, lim]
end Law
namespace Law
open PySem PySem.Spec PyProof.Rows L2 Y
/-! ### lengths -/
def IsLen (x : Int) (L : Nat) : Prop := x / 2 ^ L = 0 ∧ ∀ k, k < L → 0 < x / 2 ^ k
theorem len_ex : ∀ (m : Nat) (x : Int), 0 ≤ x → x < 2 ^ m → ∃ L, L ≤ m ∧ IsLen x L
  | 0, x, h0, h1 => ⟨0, Nat.le_refl _, by
      have : x = 0 := by simp at h1; omega
      subst this
      exact ⟨rfl, fun k hk => by omega⟩⟩
  | m + 1, x, h0, h1 => by
    by_cases h : x < 2 ^ m
    · obtain ⟨L, hL, h⟩ := len_ex m x h0 h
      exact ⟨L, by omega, h⟩
    · refine ⟨m + 1, Nat.le_refl _, Int.ediv_eq_zero_of_lt h0 h1, fun k hk => ?_⟩
      have := two_le (show k ≤ m by omega)
      have hp := two_pos k
      have := Int.ediv_le_ediv hp (show (2 : Int) ^ k ≤ x by omega)
      rw [Int.ediv_self (by omega)] at this
      omega
theorem e_length {x : Int} {L : Nat} (h : IsLen x L) (hL : L < 1000000) (g : G) : F_length_of [.int x] g = .ok (.d (.int L)) g := by
  obtain ⟨st', e, hj⟩ := while_ok (mt := mTest (mOp2 (iB fun i j => decide (j < i)) (mOp2 (iC (fun _ j => decide (0 ≤ j)) fun i j => i / 2 ^ j.toNat) (mVar 0) (mVar 1)) (mC (.int 0)))) (m := mSet 1 (mX (mOp2 (iI fun i j => i + j) (mVar 1) (mC (.int 1))))) (wp := [])
    (fun m st => ∃ k : Nat, k + m = L ∧ st = ⟨[some (.d (.int x)), some (.d (.int k))], g⟩) (fun st => st = ⟨[some (.d (.int x)), some (.d (.int L))], g⟩) (fun m st ⟨k, hk, e⟩ => by
      subst e
      by_cases hm : m = 0
      · subst hm
        have : k = L := by omega
        subst this
        have h1 := h.1
        exact .inl ⟨_, by simp [h1], rfl⟩
      · have h1 := h.2 k (by omega)
        exact .inr ⟨⟨[some (.d (.int x)), some (.d (.int k))], g⟩, ⟨[some (.d (.int x)), some (.d (.int (k + 1)))], g⟩, m - 1, by simp [h1], by simp, by omega, k + 1, by omega, by simp⟩) (n := L) (st := ⟨[some (.d (.int x)), some (.d (.int 0))], g⟩) hL ⟨0, by omega, rfl⟩
  subst hj
  simp only [F_length_of, m_length_of]
  simp [e]
/-! ### the lowest bit -/
theorem odd_part : ∀ (m : Nat) (x : Int), 0 < x → x < 2 ^ m → ∃ (t : Nat) (q : Int), t < m ∧ 0 ≤ q ∧ x = 2 ^ t * (2 * q + 1)
  | 0, x, h0, h1 => by simp at h1; omega
  | m + 1, x, h0, h1 => by
    by_cases h : x % 2 = 1
    · exact ⟨0, x / 2, by omega, by omega, by simp; omega⟩
    · rw [Int.pow_succ] at h1
      obtain ⟨t, q, ht, hq, e⟩ := odd_part m (x / 2) (by omega) (by omega)
      refine ⟨t + 1, q, by omega, hq, ?_⟩
      have e2 : x = x / 2 * 2 := by omega
      rw [e2, e, Int.pow_succ]
      grind
theorem low_bit {t : Nat} {q : Int} (hq : 0 ≤ q) : Builtin.bitAnd (2 ^ t * (2 * q + 1)) (-(2 ^ t * (2 * q + 1))) = 2 ^ t := by
  obtain ⟨p, rfl⟩ := Int.eq_ofNat_of_zero_le hq
  have hp := Nat.two_pow_pos t
  have e1 : (2 ^ t * (2 * (p : Int) + 1)) = ((2 ^ t * (2 * p + 1) : Nat) : Int) := by simp
  rw [e1]
  have e2 : -((2 ^ t * (2 * p + 1) : Nat) : Int) = Builtin.bitNot (((2 ^ t * (2 * p + 1) - 1 : Nat)) : Int) := by
    unfold Builtin.bitNot
    have : 1 ≤ 2 ^ t * (2 * p + 1) := Nat.mul_pos hp (by omega)
    omega
  rw [e2, bitAnd_not, bitAnd_pp (by omega) (by omega), Int.toNat_natCast, Int.toNat_natCast]
  have hz : ∀ z, z < 2 ^ (t + 1) → 2 ^ (t + 1) * p + z = 2 ^ (t + 1) * p ||| z := fun z hz => Nat.two_pow_add_eq_or_of_lt hz p
  have hp1 : 2 ^ (t + 1) = 2 ^ t * 2 := Nat.pow_succ ..
  have e3 : 2 ^ t * (2 * p + 1) = 2 ^ (t + 1) * p ||| 2 ^ t := by
    rw [← hz _ (by omega), hp1]
    grind
  have e4 : 2 ^ t * (2 * p + 1) - 1 = 2 ^ (t + 1) * p ||| (2 ^ t - 1) := by
    rw [← hz _ (by omega)]
    have : 2 ^ t * (2 * p + 1) = 2 ^ (t + 1) * p + 2 ^ t := by rw [hp1]; grind
    omega
  have e5 : (2 ^ t * (2 * p + 1)) &&& (2 ^ t * (2 * p + 1) - 1) = 2 ^ (t + 1) * p := by
    rw [e4, e3, Nat.and_or_distrib_left, Nat.and_or_distrib_right, Nat.and_or_distrib_right, Nat.and_self]
    have a1 : 2 ^ t &&& 2 ^ (t + 1) * p = 0 := by
      rw [Nat.mul_comm]
      exact Bits.nat_and_mul_pow _ _ _ (by omega)
    have a2 : 2 ^ (t + 1) * p &&& (2 ^ t - 1) = 0 := by
      rw [Nat.mul_comm, Nat.and_comm]
      exact Bits.nat_and_mul_pow _ _ _ (by omega)
    have a3 : 2 ^ t &&& (2 ^ t - 1) = 0 := by
      have := Bits.nat_and_mul_pow t (2 ^ t - 1) 1 (by omega)
      rw [Nat.one_mul, Nat.and_comm] at this
      exact this
    rw [a1, a2, a3]
    simp
  rw [e5]
  have : 2 ^ t * (2 * p + 1) = 2 ^ (t + 1) * p + 2 ^ t := by rw [hp1]; grind
  have e6 : ((2 ^ t : Nat) : Int) = 2 ^ t := by simp
  omega
theorem len_pow (t : Nat) : IsLen (2 ^ t) (t + 1) := by
  refine ⟨Int.ediv_eq_zero_of_lt (by have := two_pos t; omega) (by rw [Int.pow_succ]; have := two_pos t; omega), fun k hk => ?_⟩
  have := two_le (show k ≤ t by omega)
  have hp := two_pos k
  have := Int.ediv_le_ediv hp this
  rw [Int.ediv_self (by omega)] at this
  omega
/-! ### the law's places -/
def bitL (N : Int) (m : Nat) : List D := ((List.range m).filter fun k => decide (N / 2 ^ k % 2 = 1)).map fun (k : Nat) => D.int (k : Int)
theorem bitL_succ (N : Int) (m : Nat) : bitL N (m + 1) = if N / 2 ^ m % 2 = 1 then bitL N m ++ [.int (m : Int)] else bitL N m := by
  unfold bitL
  rw [List.range_succ, List.filter_append, List.map_append]
  by_cases h : N / 2 ^ m % 2 = 1 <;> simp [h]
theorem bitL_none {N : Int} : ∀ {m : Nat}, (∀ k, k < m → ¬ N / 2 ^ k % 2 = 1) → bitL N m = []
  | 0, _ => rfl
  | m + 1, h => by rw [bitL_succ, if_neg (h m (by omega)), bitL_none fun k hk => h k (by omega)]
theorem bitL_low {N : Int} {lo : Nat} (h1 : N / 2 ^ lo % 2 = 1) (h2 : ∀ k, k < lo → ¬ N / 2 ^ k % 2 = 1) : ∀ m, lo < m → ∃ r, bitL N m = .int (lo : Int) :: r
  | 0, h => by omega
  | m + 1, h => by
    by_cases e : lo = m
    · subst e
      rw [bitL_succ, if_pos h1, bitL_none h2]
      exact ⟨[], rfl⟩
    · obtain ⟨r, hr⟩ := bitL_low h1 h2 m (by omega)
      rw [bitL_succ, hr]
      split
      · exact ⟨r ++ [.int m], rfl⟩
      · exact ⟨r, rfl⟩
theorem bitL_high {N : Int} {hi : Nat} (h1 : N / 2 ^ hi % 2 = 1) (h2 : ∀ k, hi < k → ¬ N / 2 ^ k % 2 = 1) : ∀ m, hi < m → ∃ r, bitL N m = r ++ [.int (hi : Int)]
  | 0, h => by omega
  | m + 1, h => by
    by_cases e : hi = m
    · subst e
      rw [bitL_succ, if_pos h1]
      exact ⟨_, rfl⟩
    · obtain ⟨r, hr⟩ := bitL_high h1 h2 m (by omega)
      rw [bitL_succ, if_neg (h2 m (by omega)), hr]
      exact ⟨r, rfl⟩
theorem bitL_len (N : Int) (m : Nat) : (bitL N m).length ≤ m := by
  unfold bitL
  rw [List.length_map]
  exact Nat.le_trans (List.length_filter_le _ _) (by simp)
theorem places_loop {n : Nat} (h2 : n ≤ 64) (N : Int) (g : G) : mForL (gN 3) (mIfS (mTest (mOp2 fEq (mOp2 (iC (fun _ j => decide (0 < j)) fun i j => i % j) (mFz (mCB fInt (vCons (mOp2 (iC divC fun i j => i / j) (mVar 0) (mFz (mCall F__law_power (mCons (mKeep (mVar 3)) mNil)))) vNil))) (mC (.int 2))) (mC (.int 1))))
    (mAppend (mVar 2) (mKeep (mVar 3)))
    mSkip) [3] (rgD 0 (2 * n)) ⟨[some (.d (.int N)), some (.d (.int n)), some (.m (.l [])), none], g⟩ = .nx ⟨[some (.d (.int N)), some (.d (.int n)), some (.m (.l (bitL N (2 * n)))), none], g⟩ := by
  obtain ⟨st', e, hi⟩ := for_inv (g := gN 3) (body := (mIfS (mTest (mOp2 fEq (mOp2 (iC (fun _ j => decide (0 < j)) fun i j => i % j) (mFz (mCB fInt (vCons (mOp2 (iC divC fun i j => i / j) (mVar 0) (mFz (mCall F__law_power (mCons (mKeep (mVar 3)) mNil)))) vNil))) (mC (.int 2))) (mC (.int 1))))
    (mAppend (mVar 2) (mKeep (mVar 3)))
    mSkip)) (wp := [3]) (fun k st => st = ⟨[some (.d (.int N)), some (.d (.int n)), some (.m (.l (bitL N k))), none], g⟩) (rgD 0 (2 * n)) 0 ⟨[some (.d (.int N)), some (.d (.int n)), some (.m (.l [])), none], g⟩ rfl (by
    intro j x st hx e
    subst e
    obtain ⟨hj, rfl⟩ := rgD_get hx
    rw [Int.zero_add, Nat.zero_add]
    have hd : divC N (2 ^ j) = true := divC_of (two_pos j) (Int.le_trans (two_le (show j ≤ 128 by omega)) (by decide))
    have hl : (bitL N j).length < lim := by
      have := bitL_len N j
      unfold lim
      omega
    have hp := power_ok j (by omega) g
    refine ⟨⟨[some (.d (.int N)), some (.d (.int n)), some (.m (.l (bitL N j))), some (.d (.int j))], g⟩, ⟨[some (.d (.int N)), some (.d (.int n)), some (.m (.l (bitL N (j + 1)))), some (.d (.int j))], g⟩, rfl, ?_, rfl⟩
    rw [bitL_succ]
    by_cases hb : N / 2 ^ j % 2 = 1 <;> simp [hp, hd, hb, hl])
  rw [rgD_len, Nat.zero_add] at hi
  rw [e, hi]
theorem e_law_places0 {n : Nat} (h1 : 1 ≤ n) (h2 : n ≤ 64) (g : G) : F__law_places [.int 0, .int n] g = .ok (.d (.tup [.int (-1), .int (2 * n)])) g := by
  have e := places_loop h2 0 g
  rw [bitL_none (N := 0) (by simp)] at e
  have hr : inR (2 * (n : Int)) = true := inR_of (by omega) (by omega)
  simp [F__law_places, m__law_places, mul2, hr, e, lim]
theorem e_law_places {n : Nat} (h1 : 1 ≤ n) (h2 : n ≤ 64) {N : Int} {lo hi : Nat} (l1 : N / 2 ^ lo % 2 = 1) (l2 : ∀ k, k < lo → ¬ N / 2 ^ k % 2 = 1) (l3 : lo < 2 * n) (u1 : N / 2 ^ hi % 2 = 1) (u2 : ∀ k, hi < k → ¬ N / 2 ^ k % 2 = 1) (u3 : hi < 2 * n) (g : G) :
    F__law_places [.int N, .int n] g = .ok (.d (.tup [.int hi, .int lo])) g := by
  have e := places_loop h2 N g
  obtain ⟨r, hr⟩ := bitL_low l1 l2 _ l3
  obtain ⟨r', hr'⟩ := bitL_high u1 u2 _ u3
  have x1 : atI (bitL N (2 * n)) 0 = some (.int lo) := by rw [hr, atI_z]
  have x2 : atI (bitL N (2 * n)) (-1) = some (.int hi) := by rw [hr', L2.atI_last]
  have x3 : 0 < (bitL N (2 * n)).length := by rw [hr]; simp
  have hr : inR (2 * (n : Int)) = true := inR_of (by omega) (by omega)
  simp [F__law_places, m__law_places, mul2, hr, e, lim, x1, x2, x3]
end Law
namespace Law
open PySem PySem.Spec PyProof.Rows L2 Y
theorem len_pos {x : Int} {L : Nat} (h : IsLen x L) (hx : 0 < x) : 1 ≤ L := by
  by_cases e : L = 0
  · subst e
    have := h.1
    simp at this
    omega
  · omega
/-- the highest bit -/
theorem high_bit {x : Int} {L : Nat} (h : IsLen x L) (hx : 0 < x) : x / 2 ^ (L - 1) % 2 = 1 := by
  have h1 := len_pos h hx
  have h2 := h.2 (L - 1) (by omega)
  have h3 := h.1
  have e : L = L - 1 + 1 := by omega
  rw [e, Int.pow_succ, ← Int.ediv_ediv_of_nonneg (Int.le_of_lt (two_pos _))] at h3
  omega
theorem above {x : Int} {L k : Nat} (h : IsLen x L) (hk : L ≤ k) : x / 2 ^ k = 0 := by
  have e : k = L + (k - L) := by omega
  rw [e, Int.pow_add, ← Int.ediv_ediv_of_nonneg (Int.le_of_lt (two_pos _)), h.1]
  simp
theorem shift_div {a b : Int} {n k : Nat} (b0 : 0 ≤ b) (b1 : b < 2 ^ n) : (a * 2 ^ n + b) / 2 ^ (n + k) = a / 2 ^ k := by
  rw [Int.pow_add, ← Int.ediv_ediv_of_nonneg (Int.le_of_lt (two_pos _)), hl_hi b0 b1]
theorem odd_at {t : Nat} {Q : Int} : (2 ^ t * (2 * Q + 1)) / 2 ^ t % 2 = 1 := by
  rw [Int.mul_ediv_cancel_left _ (by have := two_pos t; omega)]
  omega
theorem even_below {t k : Nat} {Q : Int} (h : k < t) : ¬ (2 ^ t * (2 * Q + 1)) / 2 ^ k % 2 = 1 := by
  have e : (2 : Int) ^ t = 2 ^ k * (2 * 2 ^ (t - k - 1)) := by
    rw [show t = k + (1 + (t - k - 1)) by omega, Int.pow_add, Int.pow_add]
    simp
  rw [e, Int.mul_assoc, Int.mul_ediv_cancel_left _ (by have := two_pos k; omega), Int.mul_assoc]
  omega
/-- the places of the highest and the lowest bit of a pair -/
theorem pair_places {n : Nat} (h1 : 1 ≤ n) (h2 : n ≤ 64) {a b : Int} (a0 : 0 ≤ a) (a1 : a < 2 ^ n) (b0 : 0 ≤ b) (b1 : b < 2 ^ n) (hne : ¬ (a = 0 ∧ b = 0)) (g : G) :
    ∃ lo hi : Nat, lo < 2 * n ∧ hi < 2 * n ∧ (a * 2 ^ n + b) / 2 ^ lo % 2 = 1 ∧ (∀ k, k < lo → ¬ (a * 2 ^ n + b) / 2 ^ k % 2 = 1) ∧ (a * 2 ^ n + b) / 2 ^ hi % 2 = 1 ∧ (∀ k, hi < k → ¬ (a * 2 ^ n + b) / 2 ^ k % 2 = 1) ∧
      F_double_places [.int n, .tup [.int a, .int b]] g = .ok (.d (.tup [.int hi, .int lo])) g := by
  have hlo : ∃ (w : Int) (t off : Nat), (if 0 < b then (b, (0 : Int)) else (a, (n : Int))) = (w, (off : Int)) ∧ t < n ∧ off ≤ n ∧ Builtin.bitAnd w (-w) = 2 ^ t ∧ ∃ Q : Int, a * 2 ^ n + b = 2 ^ (t + off) * (2 * Q + 1) := by
    by_cases hb : 0 < b
    · obtain ⟨t, q, ht, hq, e⟩ := odd_part n b hb b1
      refine ⟨b, t, 0, by rw [if_pos hb]; rfl, ht, by omega, by rw [e]; exact low_bit hq, a * 2 ^ (n - t - 1) + q, ?_⟩
      have e2 : (2 : Int) ^ n = 2 ^ t * (2 * 2 ^ (n - t - 1)) := by
        conv => lhs; rw [show n = t + (1 + (n - t - 1)) by omega, Int.pow_add, Int.pow_add]
        simp
      rw [e, e2, Nat.add_zero]
      grind
    · have hb0 : b = 0 := by omega
      have ha : 0 < a := by omega
      obtain ⟨t, q, ht, hq, e⟩ := odd_part n a ha a1
      refine ⟨a, t, n, by rw [if_neg hb], ht, by omega, by rw [e]; exact low_bit hq, q, ?_⟩
      rw [hb0, Int.add_zero, e, Int.pow_add]
      grind
  have hhi : ∃ (w : Int) (L off : Nat), (if 0 < a then (a, (n : Int)) else (b, (0 : Int))) = (w, (off : Int)) ∧ 1 ≤ L ∧ L ≤ n ∧ off ≤ n ∧ IsLen w L ∧ (a * 2 ^ n + b) / 2 ^ (L - 1 + off) % 2 = 1 ∧ (∀ k, L - 1 + off < k → ¬ (a * 2 ^ n + b) / 2 ^ k % 2 = 1) := by
    by_cases ha : 0 < a
    · obtain ⟨L, hL, h⟩ := len_ex n a a0 a1
      refine ⟨a, L, n, by rw [if_pos ha], len_pos h ha, hL, by omega, h, ?_, fun k hk => ?_⟩
      · rw [show L - 1 + n = n + (L - 1) by omega, shift_div b0 b1]
        exact high_bit h ha
      · rw [show k = n + (k - n) by omega, shift_div b0 b1, above h (by omega)]
        decide
    · have hb : 0 < b := by omega
      have ha0 : a = 0 := by omega
      obtain ⟨L, hL, h⟩ := len_ex n b b0 b1
      refine ⟨b, L, 0, by rw [if_neg ha]; rfl, len_pos h hb, hL, by omega, h, ?_, fun k hk => ?_⟩
      · rw [ha0, Int.zero_mul, Int.zero_add]
        exact high_bit h hb
      · rw [ha0, Int.zero_mul, Int.zero_add, above h (by omega)]
        decide
  obtain ⟨w, t, off, ew, ht, ho, eb, Q, eQ⟩ := hlo
  obtain ⟨w', L, off', ew', hL1, hL, ho', hlen, u1, u2⟩ := hhi
  have hoff : off = 0 ∨ off = n := by
    by_cases hb : 0 < b
    · rw [if_pos hb] at ew
      have := (Prod.mk.inj ew).2
      omega
    · rw [if_neg hb] at ew
      have := (Prod.mk.inj ew).2
      omega
  refine ⟨t + off, L - 1 + off', by omega, by omega, by rw [eQ]; exact odd_at, fun k hk => by rw [eQ]; exact even_below hk, u1, u2, ?_⟩
  have e1 := e_length (len_pow t) (by omega) g
  have e2 := e_length hlen (by omega) g
  have c1 : ((L : Int) - 1 + (off' : Int)) = ((L - 1 + off' : Nat) : Int) := by omega
  have c2 : (((t + 1 : Nat) : Int) - 1 + (off : Int)) = ((t + off : Nat) : Int) := by omega
  have fe : fEq (.tup [.int a, .int b]) (.tup [.int 0, .int 0]) = some (.bl false) := by
    by_cases ha : a = 0
    · have hb : ¬ b = 0 := fun z => hne ⟨ha, z⟩
      simp [fEq, ha, hb]
    · simp [fEq, ha]
  rw [← c1, ← c2]
  by_cases ha : 0 < a
  · rw [if_pos ha] at ew'
    obtain ⟨rfl, q2⟩ := Prod.mk.inj ew'
    rw [← q2]
    by_cases hb : 0 < b
    · rw [if_pos hb] at ew
      obtain ⟨rfl, q1⟩ := Prod.mk.inj ew
      rw [← q1]
      simp [F_double_places, m_double_places, e_check_double h1 h2 a0 a1 b0 b1, fe, ha, hb, eb, e1, e2, lim, atI_of]
    · rw [if_neg hb] at ew
      obtain ⟨rfl, q1⟩ := Prod.mk.inj ew
      rw [← q1]
      simp [F_double_places, m_double_places, e_check_double h1 h2 a0 a1 b0 b1, fe, ha, hb, eb, e1, e2, lim, atI_of]
  · rw [if_neg ha] at ew'
    obtain ⟨rfl, q2⟩ := Prod.mk.inj ew'
    rw [← q2]
    by_cases hb : 0 < b
    · rw [if_pos hb] at ew
      obtain ⟨rfl, q1⟩ := Prod.mk.inj ew
      rw [← q1]
      simp [F_double_places, m_double_places, e_check_double h1 h2 a0 a1 b0 b1, fe, ha, hb, eb, e1, e2, lim, atI_of]
    · exact absurd ⟨by omega, by omega⟩ hne
theorem e_double_places0 {n : Nat} (h1 : 1 ≤ n) (h2 : n ≤ 64) (g : G) : F_double_places [.int n, .tup [.int 0, .int 0]] g = .ok (.d (.tup [.int (-1), .int (2 * n)])) g := by
  have hp := two_pos n
  simp [F_double_places, m_double_places, e_check_double h1 h2 (Int.le_refl 0) hp (Int.le_refl 0) hp, fEq, mul2, lim]
/-- told alike -/
theorem places_ok {n : Nat} (h1 : 1 ≤ n) (h2 : n ≤ 64) {a b : Int} (a0 : 0 ≤ a) (a1 : a < 2 ^ n) (b0 : 0 ≤ b) (b1 : b < 2 ^ n) (g : G) :
    ∃ x y : Int, F_double_places [.int n, .tup [.int a, .int b]] g = .ok (.d (.tup [.int x, .int y])) g ∧ F__law_places [.int (a * 2 ^ n + b), .int n] g = .ok (.d (.tup [.int x, .int y])) g := by
  by_cases h : a = 0 ∧ b = 0
  · obtain ⟨rfl, rfl⟩ := h
    have e := e_law_places0 h1 h2 g
    refine ⟨_, _, e_double_places0 h1 h2 g, ?_⟩
    rw [Int.zero_mul, Int.zero_add]
    exact e
  · obtain ⟨lo, hi, x1, x2, x3, x4, x5, x6, e⟩ := pair_places h1 h2 a0 a1 b0 b1 h g
    exact ⟨_, _, e, e_law_places h1 h2 x3 x4 x1 x5 x6 x2 g⟩
/-! ### comparisons -/
theorem shp_plain : shp (.str "plain") = true := by decide +kernel
theorem shp_two : shp (.str "two") = true := by decide +kernel
theorem pt_ne : (("plain" : Str) == ("two" : Str)) = false := by decide +kernel
theorem tp_ne : (("two" : Str) == ("plain" : Str)) = false := by decide +kernel
theorem in_plain : fIn true (.str "plain") (.tup [.str "plain", .str "two"]) = some (.bl false) := by simp [fIn, fIn.flatD, pt_ne, tp_ne]
theorem in_two : fIn true (.str "two") (.tup [.str "plain", .str "two"]) = some (.bl false) := by simp [fIn, fIn.flatD, pt_ne, tp_ne]
theorem eq_pt : fEq (.str "plain") (.str "two") = some (.bl false) := by simp [fEq, shp_plain, shp_two, pt_ne]
theorem eq_tt : fEq (.str "two") (.str "two") = some (.bl true) := by simp [fEq, shp_plain, shp_two, pt_ne]
theorem eq_pp : fEq (.str "plain") (.str "plain") = some (.bl true) := by simp [fEq, shp_plain, shp_two, pt_ne]
theorem eq_tp : fEq (.str "two") (.str "plain") = some (.bl false) := by simp [fEq, shp_plain, shp_two, tp_ne]
def cmpI (x y : Int) : Int := (if y < x then 1 else 0) - (if x < y then 1 else 0)
theorem cmp_hl {H a b c d : Int} (b0 : 0 ≤ b) (b1 : b < H) (d0 : 0 ≤ d) (d1 : d < H) : (if ¬ a = c then (if a < c then (-1 : Int) else 1) else if b = d then 0 else if b < d then -1 else 1) = cmpI (a * H + b) (c * H + d) := by
  unfold cmpI
  rcases Int.lt_trichotomy a c with h | h | h
  · have := Int.mul_le_mul_of_nonneg_right (show a + 1 ≤ c by omega) (show 0 ≤ H by omega)
    rw [Int.add_mul] at this
    rw [if_pos (by omega), if_pos h, if_neg (by omega), if_pos (by omega)]
    rfl
  · subst h
    rw [if_neg (by omega)]
    rcases Int.lt_trichotomy b d with h | h | h
    · rw [if_neg (by omega), if_pos h, if_neg (by omega), if_pos (by omega)]; rfl
    · rw [if_pos h, if_neg (by omega), if_neg (by omega)]; rfl
    · rw [if_neg (by omega), if_neg (by omega), if_pos (by omega), if_neg (by omega)]; rfl
  · have := Int.mul_le_mul_of_nonneg_right (show c + 1 ≤ a by omega) (show 0 ≤ H by omega)
    rw [Int.add_mul] at this
    rw [if_pos (by omega), if_neg (by omega), if_pos (by omega), if_neg (by omega)]
    rfl
theorem e_compared_plain {n : Nat} (h1 : 1 ≤ n) (h2 : n ≤ 64) {a b c d : Int} (a0 : 0 ≤ a) (a1 : a < 2 ^ n) (b0 : 0 ≤ b) (b1 : b < 2 ^ n) (c0 : 0 ≤ c) (c1 : c < 2 ^ n) (d0 : 0 ≤ d) (d1 : d < 2 ^ n) (g : G) :
    F_double_compared [.str "plain", .int n, .tup [.int a, .int b], .tup [.int c, .int d]] g = .ok (.d (.int (cmpI (a * 2 ^ n + b) (c * 2 ^ n + d)))) g := by
  rw [← cmp_hl b0 b1 d0 d1]
  have q1 := e_check_double h1 h2 a0 a1 b0 b1 g
  have q2 := e_check_double h1 h2 c0 c1 d0 d1 g
  by_cases x1 : a = c
  · subst x1
    by_cases x2 : b = d
    · subst x2
      simp [F_double_compared, m_double_compared, q1, q2, atI_of, in_plain, eq_pt, lim]
    · by_cases x3 : b < d <;> simp [F_double_compared, m_double_compared, q1, q2, atI_of, in_plain, eq_pt, x2, x3, lim]
  · by_cases x2 : a < c <;> simp [F_double_compared, m_double_compared, q1, q2, atI_of, in_plain, eq_pt, x1, x2, lim]
theorem xor_sign {m : Nat} {a : Int} (a0 : 0 ≤ a) (a1 : a < 2 ^ (m + 1)) : Builtin.bitXor a (2 ^ m) = if 2 ^ m ≤ a then a - 2 ^ m else a + 2 ^ m := by
  have hp := two_pos m
  rw [Int.pow_succ] at a1
  obtain ⟨p, rfl⟩ := Int.eq_ofNat_of_zero_le a0
  have em : ((2 ^ m : Nat) : Int) = 2 ^ m := by simp
  rw [← em, Bits.bitXor_pp (by omega) (by omega), Int.toNat_natCast, Int.toNat_natCast]
  have hx := Bits.nat_xor_add_and p (2 ^ m)
  by_cases h : 2 ^ m ≤ p
  · have h3 : p &&& 2 ^ m = 2 ^ m := by
      have e : p = 2 ^ m * 1 + (p - 2 ^ m) := by omega
      rw [e, Nat.two_pow_add_eq_or_of_lt (by omega) 1, Nat.and_or_distrib_right, Nat.mul_one, Nat.and_self]
      have := Bits.nat_and_mul_pow m (p - 2 ^ m) 1 (by omega)
      rw [Nat.one_mul] at this
      rw [this]
      simp
    rw [if_pos (by omega)]
    omega
  · have h3 : p &&& 2 ^ m = 0 := by
      have := Bits.nat_and_mul_pow m p 1 (by omega)
      rw [Nat.one_mul] at this
      exact this
    rw [if_neg (by omega)]
    omega
/-- a number by two's -/
def tw (H x : Int) : Int := if H ≤ 2 * x then x - H else x
theorem cmp_up {x y z : Int} : cmpI (x + z) (y + z) = cmpI x y := by
  unfold cmpI
  congr 1
  · by_cases h : y < x
    · rw [if_pos h, if_pos (by omega)]
    · rw [if_neg h, if_neg (by omega)]
  · by_cases h : x < y
    · rw [if_pos h, if_pos (by omega)]
    · rw [if_neg h, if_neg (by omega)]
theorem sign_ok {m : Nat} {a b : Int} (a0 : 0 ≤ a) (a1 : a < 2 ^ (m + 1)) (b0 : 0 ≤ b) (b1 : b < 2 ^ (m + 1)) :
    Builtin.bitXor a (2 ^ m) * 2 ^ (m + 1) + b = tw (2 ^ (m + 1) * 2 ^ (m + 1)) (a * 2 ^ (m + 1) + b) + 2 ^ m * 2 ^ (m + 1) ∧ 0 ≤ Builtin.bitXor a (2 ^ m) ∧ Builtin.bitXor a (2 ^ m) < 2 ^ (m + 1) := by
  have hp := two_pos m
  have e : (2 : Int) ^ (m + 1) = 2 ^ m + 2 ^ m := by rw [Int.pow_succ]; omega
  rw [xor_sign a0 a1]
  unfold tw
  generalize (2 : Int) ^ (m + 1) = H at *
  generalize (2 : Int) ^ m = s at *
  have eH : H * H = s * H + s * H := by rw [← Int.add_mul, ← e]
  by_cases h : s ≤ a
  · have := Int.mul_le_mul_of_nonneg_right h (show 0 ≤ H by omega)
    rw [if_pos h, if_pos (by omega), Int.sub_mul]
    omega
  · have := Int.mul_le_mul_of_nonneg_right (show a + 1 ≤ s by omega) (show 0 ≤ H by omega)
    rw [Int.add_mul] at this
    rw [if_neg h, if_neg (by omega), Int.add_mul]
    omega
theorem e_compared_two {n : Nat} (h1 : 1 ≤ n) (h2 : n ≤ 64) {a b c d : Int} (a0 : 0 ≤ a) (a1 : a < 2 ^ n) (b0 : 0 ≤ b) (b1 : b < 2 ^ n) (c0 : 0 ≤ c) (c1 : c < 2 ^ n) (d0 : 0 ≤ d) (d1 : d < 2 ^ n) (g : G) :
    F_double_compared [.str "two", .int n, .tup [.int a, .int b], .tup [.int c, .int d]] g = .ok (.d (.int (cmpI (tw (2 ^ n * 2 ^ n) (a * 2 ^ n + b)) (tw (2 ^ n * 2 ^ n) (c * 2 ^ n + d))))) g := by
  obtain ⟨m, hm⟩ : ∃ m, n = m + 1 := ⟨n - 1, by omega⟩
  have s1 := sign_ok (m := m) (b := b) a0 (by rw [← hm]; exact a1) b0 (by rw [← hm]; exact b1)
  have s2 := sign_ok (m := m) (b := d) c0 (by rw [← hm]; exact c1) d0 (by rw [← hm]; exact d1)
  rw [← hm] at s1 s2
  obtain ⟨e1, p0, p1⟩ := s1
  obtain ⟨e2, q0, q1⟩ := s2
  have hs : shlC 1 ((n : Int) - 1) = true := shlC_of (by omega) (by omega) (sm_of (by decide) (by decide))
  have ht : ((n : Int) - 1).toNat = m := by omega
  have ht' : n - 1 = m := by omega
  have r1 := e_check_double h1 h2 a0 a1 b0 b1 g
  have r2 := e_check_double h1 h2 c0 c1 d0 d1 g
  rw [← cmp_up (z := 2 ^ m * 2 ^ n), ← e1, ← e2, ← cmp_hl b0 b1 d0 d1]
  clear e1 e2
  obtain ⟨A, hA⟩ : ∃ A, Builtin.bitXor a (2 ^ m) = A := ⟨_, rfl⟩
  obtain ⟨C, hC⟩ : ∃ C, Builtin.bitXor c (2 ^ m) = C := ⟨_, rfl⟩
  rw [hA, hC]
  by_cases x1 : A = C
  · subst x1
    by_cases x2 : b = d
    · subst x2
      simp [F_double_compared, m_double_compared, r1, r2, atI_of, in_two, eq_tt, lim, hs, ht, ht', hA, hC]
    · by_cases x3 : b < d <;> simp [F_double_compared, m_double_compared, r1, r2, atI_of, in_two, eq_tt, x2, x3, lim, hs, ht, ht', hA, hC]
  · by_cases x2 : A < C <;> simp [F_double_compared, m_double_compared, r1, r2, atI_of, in_two, eq_tt, x1, x2, lim, hs, ht, ht', hA, hC]
end Law
namespace Law
open PySem PySem.Spec PyProof.Rows L2 Y
/-! ### roots -/
theorem rgC_get {lo c : Int} {n i : Nat} {d : D} (h : (rgC lo c n)[i]? = some d) : i < n ∧ d = .int (lo + (i : Int) * c) := by
  unfold rgC at h
  rw [List.getElem?_map] at h
  by_cases hi : i < n
  · rw [List.getElem?_range hi] at h
    exact ⟨hi, (Option.some.inj h).symm⟩
  · rw [List.getElem?_eq_none (by simpa using hi)] at h
    cases h
theorem rgC_len (lo c : Int) (n : Nat) : (rgC lo c n).length = n := by simp [rgC]
theorem step_down {n : Nat} (h1 : 1 ≤ n) (h2 : n ≤ 64) : stepN ((n : Int) - 1) (-1) (-1) = some n := by
  have hs : Builtin.Range.small ((n : Int) - 1) (-1) (-1) = true := PySem.W.small_down (by omega) (by omega) (by omega) (by omega)
  have hz : Builtin.Range.rangeSize ((n : Int) - 1) (-1) (-1) = n := by rw [PySem.W.rangeSize_downNat]; omega
  unfold stepN
  rw [hs, hz]
  simp
theorem root_loop {n : Nat} (h1 : 1 ≤ n) (h2 : n ≤ 64) (x : D) {N : Int} (N0 : 0 ≤ N) (N1 : N < 2 ^ n * 2 ^ n) (g : G) : ∃ r : Int, mForL (gN 4) (mSeq (mSet 5 (mX (mOp2 (iI Builtin.bitOr) (mVar 3) (mOp2 (iC shlC fun i j => i * 2 ^ j.toNat) (mC (.int 1)) (mVar 4)))))
    (mIfS (mTest (mOp2 (iB fun i j => decide (i ≤ j)) (mOp2 (iC mulC fun i j => i * j) (mVar 5) (mVar 5)) (mVar 2)))
    (mSet 3 (mX (mVar 5)))
    mSkip)) [4, 5] (rgC ((n : Int) - 1) (-1) n) ⟨[some (.d (.int n)), some (.d x), some (.d (.int N)), some (.d (.int 0)), none, none], g⟩ = .nx ⟨[some (.d (.int n)), some (.d x), some (.d (.int N)), some (.d (.int r)), none, none], g⟩ ∧ 0 ≤ r ∧ r < 2 ^ n ∧ r * r ≤ N ∧ N < (r + 1) * (r + 1) := by
  obtain ⟨st', e, hi⟩ := for_inv (g := gN 4) (body := (mSeq (mSet 5 (mX (mOp2 (iI Builtin.bitOr) (mVar 3) (mOp2 (iC shlC fun i j => i * 2 ^ j.toNat) (mC (.int 1)) (mVar 4)))))
    (mIfS (mTest (mOp2 (iB fun i j => decide (i ≤ j)) (mOp2 (iC mulC fun i j => i * j) (mVar 5) (mVar 5)) (mVar 2)))
    (mSet 3 (mX (mVar 5)))
    mSkip))) (wp := [4, 5]) (fun k st => ∃ q r : Int, st = ⟨[some (.d (.int n)), some (.d x), some (.d (.int N)), some (.d (.int r)), none, none], g⟩ ∧ 0 ≤ q ∧ r = q * 2 ^ (n - k) ∧ r * r ≤ N ∧ N < (r + 2 ^ (n - k)) * (r + 2 ^ (n - k)) ∧ r + 2 ^ (n - k) ≤ 2 ^ n) (rgC ((n : Int) - 1) (-1) n) 0 ⟨[some (.d (.int n)), some (.d x), some (.d (.int N)), some (.d (.int 0)), none, none], g⟩ ⟨0, 0, rfl, by omega, by simp, by simpa using N0, by simpa using N1, by simp⟩ (by
    rintro j d st hx ⟨q, r, rfl, q0, hr, g1, g2, g3⟩
    obtain ⟨hj, rfl⟩ := rgC_get hx
    rw [Nat.zero_add] at *
    obtain ⟨p, hp⟩ : ∃ p, n - j = p + 1 := ⟨n - j - 1, by omega⟩
    have hp' : n - (j + 1) = p := by omega
    have ep : (n : Int) - 1 + (j : Int) * -1 = (p : Int) := by omega
    rw [hp] at hr g2 g3
    have hb := bnd h2
    have hpp := two_pos p
    have e2 : (2 : Int) ^ (p + 1) = 2 ^ p + 2 ^ p := by rw [Int.pow_succ]; omega
    have hor : Builtin.bitOr r (2 ^ p) = r + 2 ^ p := by
      rw [hr]
      exact or_low q0 (by omega) (by omega)
    have hr0 : 0 ≤ r := by rw [hr]; exact Int.mul_nonneg q0 (by omega)
    have hm : mulC (r + 2 ^ p) (r + 2 ^ p) = true := mulC_l (by omega) (by omega)
    have hs : shlC 1 (p : Int) = true := shlC_of (by omega) (by omega) (sm_of (by decide) (by decide))
    rw [ep]
    by_cases ht : (r + 2 ^ p) * (r + 2 ^ p) ≤ N
    · refine ⟨⟨[some (.d (.int n)), some (.d x), some (.d (.int N)), some (.d (.int r)), some (.d (.int p)), none], g⟩, ⟨[some (.d (.int n)), some (.d x), some (.d (.int N)), some (.d (.int (r + 2 ^ p))), some (.d (.int p)), some (.d (.int (r + 2 ^ p)))], g⟩, rfl, by simp [hs, hor, hm, ht], 2 * q + 1, r + 2 ^ p, rfl, by omega, ?_, ht, ?_, ?_⟩
      · rw [hp', hr, e2]; grind
      · rw [hp', Int.add_assoc, ← e2]; exact g2
      · rw [hp']; omega
    · refine ⟨⟨[some (.d (.int n)), some (.d x), some (.d (.int N)), some (.d (.int r)), some (.d (.int p)), none], g⟩, ⟨[some (.d (.int n)), some (.d x), some (.d (.int N)), some (.d (.int r)), some (.d (.int p)), some (.d (.int (r + 2 ^ p)))], g⟩, rfl, by simp [hs, hor, hm, ht], 2 * q, r, rfl, by omega, ?_, g1, ?_, ?_⟩
      · rw [hp', hr, e2]; grind
      · rw [hp']; omega
      · rw [hp']; omega)
  rw [rgC_len, Nat.zero_add, Nat.sub_self] at hi
  obtain ⟨q, r, rfl, q0, hr, g1, g2, g3⟩ := hi
  rw [Int.pow_zero] at hr g2 g3
  exact ⟨r, e, by omega, by omega, g1, g2⟩
theorem e_double_root {n : Nat} (h1 : 1 ≤ n) (h2 : n ≤ 64) {a b : Int} (a0 : 0 ≤ a) (a1 : a < 2 ^ n) (b0 : 0 ≤ b) (b1 : b < 2 ^ n) (g : G) :
    ∃ r : Int, F_double_root [.int n, .tup [.int a, .int b]] g = .ok (.d (.tup [.int r, PP n (a * 2 ^ n + b - r * r)])) g ∧ 0 ≤ r ∧ r < 2 ^ n ∧ r * r ≤ a * 2 ^ n + b ∧ a * 2 ^ n + b < (r + 1) * (r + 1) := by
  obtain ⟨f0, f1⟩ := ff_lt a0 a1 b0 b1
  obtain ⟨r, e, r0, r1, r2, r3⟩ := root_loop h1 h2 (.tup [.int a, .int b]) f0 f1 g
  have hb := bnd h2
  have hm : mulC r r = true := mulC_l (by omega) (by omega)
  refine ⟨r, ?_, r0, r1, r2, r3⟩
  simp [F_double_root, m_double_root, e_check_double h1 h2 a0 a1 b0 b1, atI_of, shlw n (by omega) h2 a0 a1, or_low a0 b0 b1, step_down h1 h2, e, hm, e_split h1 h2, lim]
/-! ### the same number by other widths -/
theorem e_same_plain {n : Nat} (h1 : 1 ≤ n) (h2 : n ≤ 64) {a b w : Int} (a0 : 0 ≤ a) (a1 : a < 2 ^ n) (b0 : 0 ≤ b) (b1 : b < 2 ^ n) (w0 : 0 ≤ w) (w1 : w < 2 ^ n) (g : G) :
    F_same_double [.str "plain", .int n, .tup [.int a, .int b], .int w] g = .ok (.d (.bl (decide (a * 2 ^ n + b = w)))) g := by
  have q1 := e_check_double h1 h2 a0 a1 b0 b1 g
  have q2 := e_check_word h1 h2 w0 w1 g
  have hk : (a * 2 ^ n + b = w) ↔ (b = w ∧ a = 0) := by
    have hp := two_pos n
    constructor
    · intro h
      have e := hl_hi (X := a) b0 b1
      rw [h, Int.ediv_eq_zero_of_lt w0 w1] at e
      subst e
      omega
    · rintro ⟨rfl, rfl⟩
      omega
  by_cases x : b = w
  · by_cases y : a = 0
    · have hd : decide (a * 2 ^ n + b = w) = true := decide_eq_true (hk.mpr ⟨x, y⟩)
      rw [hd]
      subst x
      subst y
      simp [F_same_double, m_same_double, q1, q2, in_plain, eq_pp, atI_of, lim]
    · have hd : decide (a * 2 ^ n + b = w) = false := decide_eq_false fun z => y (hk.mp z).2
      rw [hd]
      subst x
      simp [F_same_double, m_same_double, q1, q2, in_plain, eq_pp, atI_of, lim, y]
  · have hd : decide (a * 2 ^ n + b = w) = false := decide_eq_false fun z => x (hk.mp z).1
    rw [hd]
    simp [F_same_double, m_same_double, q1, q2, in_plain, eq_pp, atI_of, lim, x]
theorem e_same_two {n : Nat} (h1 : 1 ≤ n) (h2 : n ≤ 64) {a b w : Int} (a0 : 0 ≤ a) (a1 : a < 2 ^ n) (b0 : 0 ≤ b) (b1 : b < 2 ^ n) (w0 : 0 ≤ w) (w1 : w < 2 ^ n) (g : G) :
    F_same_double [.str "two", .int n, .tup [.int a, .int b], .int w] g = .ok (.d (.bl (decide (tw (2 ^ n * 2 ^ n) (a * 2 ^ n + b) = tw (2 ^ n) w)))) g := by
  obtain ⟨m, hm⟩ : ∃ m, n = m + 1 := ⟨n - 1, by omega⟩
  have q1 := e_check_double h1 h2 a0 a1 b0 b1 g
  have q2 := e_check_word h1 h2 w0 w1 g
  have ht : ((n : Int) - 1).toNat = m := by omega
  have ht' : n - 1 = m := by omega
  have hp := two_pos m
  have e : (2 : Int) ^ n = 2 ^ m + 2 ^ m := by rw [hm, Int.pow_succ]; omega
  have hw : (w / 2 ^ m = 0) ↔ 2 * w < 2 ^ n := by
    constructor
    · intro h
      have := Int.emod_add_mul_ediv w (2 ^ m)
      rw [h, Int.mul_zero, Int.add_zero] at this
      have := (pos_mod (a := w) hp).2
      omega
    · intro h
      exact Int.ediv_eq_zero_of_lt w0 (by omega)
  have hn1 : (0 : Int) ≤ (n : Int) - 1 := by omega
  have hn2 : (1 : Int) ≤ (n : Int) := by omega
  have hs1 := shl1 (n := n) (by omega)
  obtain ⟨f0, f1⟩ := ff_lt a0 a1 b0 b1
  have hH : (2 : Int) ^ n ≤ 2 ^ n * 2 ^ n := by
    have := Int.mul_le_mul_of_nonneg_right (show (1 : Int) ≤ 2 ^ n by omega) (show (0 : Int) ≤ 2 ^ n by omega)
    omega
  have hk : (tw (2 ^ n * 2 ^ n) (a * 2 ^ n + b) = tw (2 ^ n) w) ↔ (b = w ∧ a = if 2 * w < 2 ^ n then 0 else 2 ^ n - 1) := by
    clear q1 q2 hs1 hw ht
    generalize (2 : Int) ^ n = H at *
    have hA : a ≤ H - 2 → a * H ≤ H * H - 2 * H := fun z => by
      have := Int.mul_le_mul_of_nonneg_right z (show 0 ≤ H by omega)
      rw [Int.sub_mul] at this
      exact this
    have hA1 : 1 ≤ a → H ≤ a * H := fun z => by
      have := Int.mul_le_mul_of_nonneg_right z (show 0 ≤ H by omega)
      omega
    unfold tw
    by_cases z : 2 * w < H
    · rw [if_pos z, if_neg (show ¬ H ≤ 2 * w by omega)]
      constructor
      · intro h
        by_cases y : a = 0
        · subst y
          split at h <;> omega
        · have := hA1 (by omega)
          split at h <;> omega
      · rintro ⟨rfl, rfl⟩
        rw [if_neg (by omega)]
        omega
    · rw [if_neg z, if_pos (show H ≤ 2 * w by omega)]
      constructor
      · intro h
        by_cases y : a = H - 1
        · subst y
          rw [Int.sub_mul] at h
          split at h <;> omega
        · have := hA (by omega)
          split at h <;> omega
      · rintro ⟨rfl, rfl⟩
        rw [Int.sub_mul]
        rw [if_pos (by omega)]
        omega
  by_cases x : b = w
  · subst x
    by_cases y : 2 * b < 2 ^ n
    · rw [if_pos y] at hk
      have hw0 : b / 2 ^ m = 0 := hw.mpr y
      by_cases z : a = 0
      · rw [decide_eq_true (hk.mpr ⟨rfl, z⟩)]
        subst z
        simp [F_same_double, m_same_double, q1, q2, in_two, eq_tp, atI_of, lim, ht, ht', hn1, hn2, hw0]
      · rw [decide_eq_false fun k => z (hk.mp k).2]
        simp [F_same_double, m_same_double, q1, q2, in_two, eq_tp, atI_of, lim, ht, ht', hn1, hn2, hw0, z]
    · rw [if_neg y] at hk
      have hw0 : ¬ b / 2 ^ m = 0 := fun k => y (hw.mp k)
      by_cases z : a = 2 ^ n - 1
      · rw [decide_eq_true (hk.mpr ⟨rfl, z⟩)]
        simp [F_same_double, m_same_double, q1, q2, in_two, eq_tp, atI_of, lim, ht, ht', hn1, hn2, hw0, hs1, ← z]
      · rw [decide_eq_false fun k => z (hk.mp k).2]
        simp [F_same_double, m_same_double, q1, q2, in_two, eq_tp, atI_of, lim, ht, ht', hn1, hn2, hw0, hs1, z]
  · rw [decide_eq_false fun k => x (hk.mp k).1]
    simp [F_same_double, m_same_double, q1, q2, in_two, eq_tp, atI_of, lim, x]
/-! ### drawn words -/
theorem e_word {n : Nat} (h1 : 1 ≤ n) (h2 : n ≤ 64) {g : G} (hg : HandOk g) : ∃ (w : Int) (g' : G), F__law_word [.live 0, .int n] g = .ok (.d (.int w)) g' ∧ HandOk g' ∧ 0 ≤ w ∧ w < 2 ^ n := by
  have hp := two_pos n
  have h2p : (2 : Int) ≤ 2 ^ n := by
    have := two_le h1
    simpa using this
  have hb := bnd h2
  obtain ⟨r, g1, e1, hg1, r0, r1⟩ := draw_ok hg (k := 3) (by decide) (by decide)
  have hpw := power_ok n (by omega) g
  have p32 : powC 2 32 = true := powC_of (by decide) (by decide) (by decide) (by decide)
  have p31 : powC 2 31 = true := powC_of (by decide) (by decide) (by decide) (by decide)
  have hd2 : ∀ i, divC i 2 = true := fun i => divC_of (by decide) (by decide)
  by_cases hr : r = 0
  · subst hr
    obtain ⟨x, g2, e2, hg2, hx⟩ := some_ok (xs := [.int 0, .int (2 ^ n - 1), .int (2 ^ n / 2), .int ((2 ^ n - 1) / 2), .int 1]) hg1 (by simp) (by simp)
    have c1 : (2 : Int) ^ n - 1 < 2 ^ n := by omega
    have c2 : (2 : Int) ^ n / 2 < 2 ^ n := by omega
    have c3 : ((2 : Int) ^ n - 1) / 2 < 2 ^ n := by omega
    have c4 : (1 : Int) < 2 ^ n := by omega
    have hw : ∃ w : Int, x = .int w ∧ 0 ≤ w ∧ w < 2 ^ n := by
      simp only [List.mem_cons, List.not_mem_nil, or_false] at hx
      rcases hx with rfl | rfl | rfl | rfl | rfl
      · exact ⟨_, rfl, by omega, by omega⟩
      · exact ⟨_, rfl, by omega, by omega⟩
      · exact ⟨_, rfl, by omega, by omega⟩
      · exact ⟨_, rfl, by omega, by omega⟩
      · exact ⟨_, rfl, by omega, by omega⟩
    obtain ⟨w, rfl, w0, w1⟩ := hw
    refine ⟨w, g2, ?_, hg2, w0, w1⟩
    generalize (2 : Int) ^ n = H at *
    simp [F__law_word, m__law_word, hpw, hd2, e1, lim, lcL, hp, c1, c2, c3, c4, e2]
  · obtain ⟨x, g2, e2, hg2, x0, x1⟩ := draw_ok hg1 (k := 4294967296) (by decide) (by decide)
    obtain ⟨y, g3, e3, hg3, y0, y1⟩ := draw_ok hg2 (k := 2147483648) (by decide) (by decide)
    obtain ⟨z, g4, e4, hg4, z0, z1⟩ := draw_ok hg3 (k := 4294967296) (by decide) (by decide)
    have hm : mulC x y = true := mulC_l (by omega) (by omega)
    refine ⟨(x * y + z) % 2 ^ n, g4, ?_, hg4, (pos_mod hp).1, (pos_mod hp).2⟩
    generalize (2 : Int) ^ n = H at *
    simp [F__law_word, m__law_word, hpw, hd2, e1, hr, p31, p32, lim, e2, e3, e4, hm, hp]
theorem e_width {g : G} (hg : HandOk g) : ∃ (n : Nat) (g' : G), F__law_width [.live 0] g = .ok (.d (.int n)) g' ∧ HandOk g' ∧ 1 ≤ n ∧ n ≤ 64 := by
  obtain ⟨x, g2, e2, hg2, hx⟩ := some_ok (xs := [.int 1, .int 2, .int 3, .int 4, .int 7, .int 8, .int 13, .int 16, .int 32, .int 63, .int 64]) hg (by simp) (by simp)
  have hw : ∃ n : Nat, x = .int n ∧ 1 ≤ n ∧ n ≤ 64 := by
    simp only [List.mem_cons, List.not_mem_nil, or_false] at hx
    rcases hx with rfl | rfl | rfl | rfl | rfl | rfl | rfl | rfl | rfl | rfl | rfl
    · exact ⟨1, rfl, by decide, by decide⟩
    · exact ⟨2, rfl, by decide, by decide⟩
    · exact ⟨3, rfl, by decide, by decide⟩
    · exact ⟨4, rfl, by decide, by decide⟩
    · exact ⟨7, rfl, by decide, by decide⟩
    · exact ⟨8, rfl, by decide, by decide⟩
    · exact ⟨13, rfl, by decide, by decide⟩
    · exact ⟨16, rfl, by decide, by decide⟩
    · exact ⟨32, rfl, by decide, by decide⟩
    · exact ⟨63, rfl, by decide, by decide⟩
    · exact ⟨64, rfl, by decide, by decide⟩
  obtain ⟨n, rfl, n1, n2⟩ := hw
  refine ⟨n, g2, ?_, hg2, n1, n2⟩
  simp [F__law_width, m__law_width, e2, lim]
end Law
namespace Law
open PySem PySem.Spec PyProof.Rows L2 Y
theorem sh_pp (n : Nat) (N : Int) (k : Nat) : sh (k + 1) (PP n N) = true := by unfold PP; simp
theorem shp_pp (n : Nat) (N : Int) : shp (PP n N) = true := shp_of (sh_pp n N 63) (by decide)
theorem sh63_pp (n : Nat) (N : Int) : sh 63 (PP n N) = true := sh_pp n N 62
theorem eq_pp_self (n : Nat) (N : Int) : eqD (PP n N) (PP n N) = true := by unfold PP; simp
theorem ne_pp (n : Nat) (N : Int) : fNe (PP n N) (PP n N) = some (.bl false) := by unfold fNe; rw [shp_pp, eq_pp_self]; rfl
theorem ne_pair (a b : Int) : fNe (.tup [.int a, .int b]) (.tup [.int a, .int b]) = some (.bl false) := by simp [fNe]
theorem ne_ppi (n : Nat) (N i : Int) : fNe (.tup [PP n N, .int i]) (.tup [PP n N, .int i]) = some (.bl false) := by simp [fNe, sh63_pp, eq_pp_self]
theorem ne_ppb (n : Nat) (N : Int) (i : Bool) : fNe (.tup [PP n N, .bl i]) (.tup [PP n N, .bl i]) = some (.bl false) := by simp [fNe, sh63_pp, eq_pp_self]
theorem pp_add (n : Nat) (N k : Int) : PP n (N + 2 ^ n * 2 ^ n * k) = PP n N := by
  unfold PP
  rw [Int.add_mul_emod_self_left]
theorem pp_back {n : Nat} {X Y : Int} : PP n (X % (2 ^ n * 2 ^ n) - Y) = PP n (X - Y) := by
  unfold PP
  have : (X % (2 ^ n * 2 ^ n) - Y) % (2 ^ n * 2 ^ n) = (X - Y) % (2 ^ n * 2 ^ n) := Int.emod_sub_emod _ _ _
  rw [this]
theorem pp_parts {n : Nat} (X : Int) : ∃ p q : Int, PP n X = .tup [.int p, .int q] ∧ 0 ≤ p ∧ p < 2 ^ n ∧ 0 ≤ q ∧ q < 2 ^ n ∧ p * 2 ^ n + q = X % (2 ^ n * 2 ^ n) := by
  have hp := two_pos n
  have hq : (0 : Int) < 2 ^ n * 2 ^ n := Int.mul_pos hp hp
  obtain ⟨m0, m1⟩ := pos_mod (a := X) hq
  refine ⟨_, _, rfl, Int.ediv_nonneg m0 (Int.le_of_lt hp), Int.ediv_lt_of_lt_mul hp m1, (pos_mod hp).1, (pos_mod hp).2, ?_⟩
  have := Int.emod_add_mul_ediv (X % (2 ^ n * 2 ^ n)) (2 ^ n)
  rw [Int.mul_comm (2 ^ n) (X % (2 ^ n * 2 ^ n) / 2 ^ n)] at this
  omega
theorem val_pp (n : Nat) (N : Int) (st : MS) : val (.d (PP n N)) st = some (PP n N) := rfl
theorem sums_ok {n : Nat} (h1 : 1 ≤ n) (h2 : n ≤ 64) {a b c d : Int} (a0 : 0 ≤ a) (a1 : a < 2 ^ n) (b0 : 0 ≤ b) (b1 : b < 2 ^ n) (c0 : 0 ≤ c) (c1 : c < 2 ^ n) (d0 : 0 ≤ d) (d1 : d < 2 ^ n) {g : G} (hg : HandOk g) :
    ∃ g', F__law_sums_right [.live 0, .int n, .tup [.int a, .int b], .tup [.int c, .int d]] g = .ok (.d (.bl true)) g' ∧ HandOk g' := by
  have hp := two_pos n
  have hb := bnd h2
  obtain ⟨r, g1, e1, hg1, r0, r1⟩ := draw_ok hg (k := 9) (by decide) (by decide)
  obtain ⟨s, g2, e2, hg2, s0, s1⟩ := draw_ok hg1 (k := 2 * (n : Int) + 1) (by omega) (by omega)
  obtain ⟨s, rfl⟩ := Int.eq_ofNat_of_zero_le s0
  refine ⟨g2, ?_, hg2⟩
  obtain ⟨f0, f1⟩ := ff_lt a0 a1 b0 b1
  obtain ⟨k0, k1⟩ := ff_lt c0 c1 d0 d1
  have hT : (2 : Int) ^ n * 2 ^ n ≤ 340282366920938463463374607431768211456 := Int.mul_le_mul hb hb (by omega) (by decide)
  have hTp : (0 : Int) < 2 ^ n * 2 ^ n := Int.mul_pos hp hp
  have hma : mulC a (2 ^ n) = true := mulC_l (by omega) (by omega)
  have hmc : mulC c (2 ^ n) = true := mulC_l (by omega) (by omega)
  have hmT : mulC (2 ^ n * 2 ^ n) (r - 4) = true := mulC_r (by omega) (by omega)
  have hs128 : (2 : Int) ^ s ≤ 340282366920938463463374607431768211456 := by
    have := two_le (show s ≤ 128 by omega)
    simpa using this
  have hsp := two_pos s
  have hmF : mulC (a * 2 ^ n + b) (2 ^ s) = true := mulC_s (sm_of (by omega) (by omega)) (sm_of (by omega) (by omega))
  have hdF : divC (a * 2 ^ n + b) (2 ^ s) = true := divC_of hsp (by omega)
  have pw1 := fun g => power_ok n (by omega) g
  have pws := fun g => power_ok s (by omega) g
  have pw2 : ∀ g, F__law_power [.int (2 * (n : Int))] g = .ok (.d (.int (2 ^ n * 2 ^ n))) g := fun g => by
    have e := power_ok (2 * n) (by omega) g
    rw [two_two, show ((2 * n : Nat) : Int) = 2 * (n : Int) by omega] at e
    exact e
  have x1 := fun g => e_whole h1 h2 a0 a1 b0 b1 g
  have x2 : ∀ g, F_double_of [.int n, .int (a * 2 ^ n + b + 2 ^ n * 2 ^ n * (r - 4))] g = .ok (.d (.tup [.int a, .int b])) g := fun g => by
    have l1 : (2 ^ n * 2 ^ n) * (r - 4) ≤ 2 ^ n * 2 ^ n * 4 := Int.mul_le_mul_of_nonneg_left (by omega) (by omega)
    have l2 : (2 ^ n * 2 ^ n) * -4 ≤ 2 ^ n * 2 ^ n * (r - 4) := Int.mul_le_mul_of_nonneg_left (by omega) (by omega)
    rw [e_double_of h1 h2 (by omega) (by omega), pp_add, pp_self a0 a1 b0 b1]
  have x3 := fun g => e_double_sum h1 h2 a0 a1 b0 b1 c0 c1 d0 d1 g
  have x4 := fun g => e_double_difference h1 h2 a0 a1 b0 b1 c0 c1 d0 d1 g
  have x5 : ∃ i : Int, ∀ g, F_double_difference [.int n, PP n (a * 2 ^ n + b + (c * 2 ^ n + d)), .tup [.int c, .int d]] g = .ok (.d (.tup [.tup [.int a, .int b], .int i])) g := by
    obtain ⟨p, q, e, p0, p1, q0, q1, hpq⟩ := pp_parts (n := n) (a * 2 ^ n + b + (c * 2 ^ n + d))
    refine ⟨if p * 2 ^ n + q < c * 2 ^ n + d then 1 else 0, fun g => ?_⟩
    rw [e, e_double_difference h1 h2 p0 p1 q0 q1 c0 c1 d0 d1]
    have e9 : PP n (p * 2 ^ n + q - (c * 2 ^ n + d)) = PP n (a * 2 ^ n + b + (c * 2 ^ n + d) - (c * 2 ^ n + d)) := by rw [hpq, pp_back]
    rw [e9, show a * 2 ^ n + b + (c * 2 ^ n + d) - (c * 2 ^ n + d) = a * 2 ^ n + b by omega, pp_self a0 a1 b0 b1]
  obtain ⟨i5, x5⟩ := x5
  have x6 := fun g => e_double_turned h1 h2 a0 a1 b0 b1 g
  have x7 := fun g => e_double_up h1 h2 a0 a1 b0 b1 (s := s) (by omega) g
  have x8 := fun g => e_double_down h1 h2 a0 a1 b0 b1 (s := s) (by omega) g
  have x9 : ∃ x y : Int, (∀ g, F_double_places [.int n, .tup [.int a, .int b]] g = .ok (.d (.tup [.int x, .int y])) g) ∧ ∀ g, F__law_places [.int (a * 2 ^ n + b), .int n] g = .ok (.d (.tup [.int x, .int y])) g := by
    by_cases h : a = 0 ∧ b = 0
    · obtain ⟨rfl, rfl⟩ := h
      refine ⟨_, _, fun g => e_double_places0 h1 h2 g, fun g => ?_⟩
      rw [Int.zero_mul, Int.zero_add]
      exact e_law_places0 h1 h2 g
    · obtain ⟨lo, hi, y1, y2, y3, y4, y5, y6, e⟩ := pair_places h1 h2 a0 a1 b0 b1 h g
      refine ⟨hi, lo, fun g' => ?_, fun g' => e_law_places h1 h2 y3 y4 y1 y5 y6 y2 g'⟩
      obtain ⟨lo', hi', z1, z2, z3, z4, z5, z6, e'⟩ := pair_places h1 h2 a0 a1 b0 b1 h g'
      have p1 := e_law_places h1 h2 y3 y4 y1 y5 y6 y2 g
      have p2 := e_law_places h1 h2 z3 z4 z1 z5 z6 z2 g
      rw [p1] at p2
      have p3 : ((hi : Nat) : Int) = hi' ∧ ((lo : Nat) : Int) = lo' := by simpa using p2
      rw [e', p3.1, p3.2]
  obtain ⟨px, py, x9, x10⟩ := x9
  have y1 := fun g => e_law_pair h1 h2 (a * 2 ^ n + b + (c * 2 ^ n + d)) g
  have y2 := fun g => e_law_pair h1 h2 (a * 2 ^ n + b - (c * 2 ^ n + d)) g
  have y3 := fun g => e_law_pair h1 h2 (0 - (a * 2 ^ n + b)) g
  have y4 := fun g => e_law_pair h1 h2 ((a * 2 ^ n + b) * 2 ^ s) g
  have y5 := fun g => e_law_pair h1 h2 ((a * 2 ^ n + b) / 2 ^ s) g
  have z1 := fun g => e_compared_plain h1 h2 a0 a1 b0 b1 c0 c1 d0 d1 g
  have z2 := fun g => e_compared_two h1 h2 a0 a1 b0 b1 c0 c1 d0 d1 g
  have z3 : ∀ g, F_double_compared [.str "plain", .int n, .tup [.int a, .int b], .tup [.int a, .int b]] g = .ok (.d (.int 0)) g := fun g => by
    rw [e_compared_plain h1 h2 a0 a1 b0 b1 a0 a1 b0 b1 g]
    unfold cmpI
    rw [if_neg (Int.lt_irrefl _)]
    rfl
  have z4 : ∀ g, F_double_compared [.str "two", .int n, .tup [.int a, .int b], .tup [.int a, .int b]] g = .ok (.d (.int 0)) g := fun g => by
    rw [e_compared_two h1 h2 a0 a1 b0 b1 a0 a1 b0 b1 g]
    unfold cmpI
    rw [if_neg (Int.lt_irrefl _)]
    rfl
  have w1 : ∀ g, F__law_two [.int (2 * (n : Int)), .int (a * 2 ^ n + b)] g = .ok (.d (.int (tw (2 ^ n * 2 ^ n) (a * 2 ^ n + b)))) g := fun g => e_law_two2 h1 h2 _ g
  have w2 : ∀ g, F__law_two [.int (2 * (n : Int)), .int (c * 2 ^ n + d)] g = .ok (.d (.int (tw (2 ^ n * 2 ^ n) (c * 2 ^ n + d)))) g := fun g => e_law_two2 h1 h2 _ g
  have hif : ∀ p : Prop, ∀ [Decidable p], (if decide p = true then (1 : Int) else 0) = if p then 1 else 0 := fun p _ => by simp
  clear hT hb f0 f1 k0 k1 hs128
  generalize hF : a * 2 ^ n + b = F at *
  generalize hS : c * 2 ^ n + d = S at *
  generalize (2 : Int) ^ s = Q at *
  generalize hTT : (2 : Int) ^ n * 2 ^ n = T at *
  generalize hHH : (2 : Int) ^ n = H at *
  unfold cmpI at z1 z2
  have y3' : ∀ g, F__law_pair [.int n, .int (-F)] g = .ok (.d (PP n (-F))) g := fun g => by rw [← Int.zero_sub]; exact y3 g
  have x6' : ∀ g, F_double_turned [.int n, .tup [.int a, .int b]] g = .ok (.d (PP n (-F))) g := fun g => by rw [x6, Int.zero_sub]
  simp [F__law_sums_right, m__law_sums_right, mul2, pw1, pw2, pws, atI_of, hma, hmc, hmT, hmF, hdF, hF, hS, e1, e2, x1, x2, x3, x4, x5, x6', x7, x8, x9, x10, y1, y2, y3', y4, y5, ↓val_pp, ne_pp, ne_pair, ne_ppi, lim, mForL, eq_pt, eq_tt, z1, z2, z3, z4, w1, w2]
end Law
namespace Law
open PySem PySem.Spec PyProof.Rows L2 Y
theorem rep_self (p : Prop) [Decidable p] : fNe (.str (if p then "True" else "False")) (.str (if p then "True" else "False")) = some (.bl false) := by
  have h1 : shp (.str "True") = true := by decide +kernel
  have h2 : shp (.str "False") = true := by decide +kernel
  by_cases h : p <;> simp [fNe, h1, h2, h]
/-- a word told by a pair of its number -/
theorem pp_word {n : Nat} {w : Int} (w0 : 0 ≤ w) (w1 : w < 2 ^ n) : PP n w = .tup [.int 0, .int w] := by
  have := pp_of (X := 0) w0 w1
  rw [Int.zero_mul, Int.zero_add] at this
  rw [this]
  simp
theorem same2 {n : Nat} (h1 : 1 ≤ n) (h2 : n ≤ 64) {w : Int} (w0 : 0 ≤ w) (w1 : w < 2 ^ n) (g : G) : F_same_double [.str "two", .int n, PP n (tw (2 ^ n) w), .int w] g = .ok (.d (.bl true)) g := by
  have hp := two_pos n
  have hH : (2 : Int) ^ n ≤ 2 ^ n * 2 ^ n := by
    have := Int.mul_le_mul_of_nonneg_right (show (1 : Int) ≤ 2 ^ n by omega) (show (0 : Int) ≤ 2 ^ n by omega)
    omega
  have h2p : (2 : Int) * 2 ^ n ≤ 2 ^ n * 2 ^ n := by
    have h2p : (2 : Int) ≤ 2 ^ n := by
      have := two_le h1
      simpa using this
    exact Int.mul_le_mul_of_nonneg_right h2p (Int.le_of_lt hp)
  by_cases z : (2 : Int) ^ n ≤ 2 * w
  · have e1 : tw (2 ^ n) w = -1 * 2 ^ n + w := by unfold tw; rw [if_pos z]; omega
    have e2 : (-1 : Int) % 2 ^ n = 2 ^ n - 1 := by
      rw [← Int.add_emod_right, Int.emod_eq_of_lt (by omega) (by omega)]
      omega
    have e3 : tw (2 ^ n * 2 ^ n) ((2 ^ n - 1) * 2 ^ n + w) = tw (2 ^ n) w := by
      unfold tw
      rw [Int.sub_mul, if_pos (by omega), if_pos z]
      omega
    have e4 : PP n (tw (2 ^ n) w) = .tup [.int (2 ^ n - 1), .int w] := by rw [e1, pp_of w0 w1, e2]
    rw [e4, e_same_two h1 h2 (by omega) (by omega) w0 w1 w0 w1, e3, decide_eq_true rfl]
  · have e1 : tw (2 ^ n) w = w := by unfold tw; rw [if_neg z]
    have e3 : tw (2 ^ n * 2 ^ n) (0 * 2 ^ n + w) = w := by
      unfold tw
      rw [if_neg (by omega)]
      omega
    have e5 := e_same_two h1 h2 (Int.le_refl 0) hp w0 w1 w0 w1 g
    rw [e3, e1, decide_eq_true rfl] at e5
    rw [e1, pp_word w0 w1]
    exact e5
theorem same1 {n : Nat} (h1 : 1 ≤ n) (h2 : n ≤ 64) {w : Int} (w0 : 0 ≤ w) (w1 : w < 2 ^ n) (g : G) : F_same_double [.str "plain", .int n, PP n w, .int w] g = .ok (.d (.bl true)) g := by
  have e5 := e_same_plain h1 h2 (Int.le_refl 0) (two_pos n) w0 w1 w0 w1 g
  rw [decide_eq_true (by omega)] at e5
  rw [pp_word w0 w1]
  exact e5
/-- drawn pairs of words -/
theorem pairs_ok {n : Nat} (h1 : 1 ≤ n) (h2 : n ≤ 64) {g : G} (hg : HandOk g) : ∃ (a b c d : Int) (g' : G), lcL (gN 15) mYes (mKeep (mTup (mCons (mKeepX (mCall F__law_word (mCons (mKeep (mVar 0)) (mCons (mKeep (mVar 1)) mNil)))) (mCons (mKeepX (mCall F__law_word (mCons (mKeep (mVar 0)) (mCons (mKeep (mVar 1)) mNil)))) mNil)))) [15] (rgD 0 2) [] ⟨[some (.d (.live 0)), some (.d (.int n)), none, none, none, none, none, none, none, none, none, none, none, none, none, none], g⟩
    = .ok [.tup [.int a, .int b], .tup [.int c, .int d]] ⟨[some (.d (.live 0)), some (.d (.int n)), none, none, none, none, none, none, none, none, none, none, none, none, none, none], g'⟩ ∧ HandOk g' ∧ 0 ≤ a ∧ a < 2 ^ n ∧ 0 ≤ b ∧ b < 2 ^ n ∧ 0 ≤ c ∧ c < 2 ^ n ∧ 0 ≤ d ∧ d < 2 ^ n := by
  obtain ⟨a, g1, e1, hg1, a0, a1⟩ := e_word h1 h2 hg
  obtain ⟨b, g2, e2, hg2, b0, b1⟩ := e_word h1 h2 hg1
  obtain ⟨c, g3, e3, hg3, c0, c1⟩ := e_word h1 h2 hg2
  obtain ⟨d, g4, e4, hg4, d0, d1⟩ := e_word h1 h2 hg3
  refine ⟨a, b, c, d, g4, ?_, hg4, a0, a1, b0, b1, c0, c1, d0, d1⟩
  simp [rgD, lcL, List.range, List.range.loop, e1, e2, e3, e4, lim]
def right_rest : MoS :=
    (mSeq (mIfS (mNot (mTest (mFz (mCall F__law_sums_right (mCons (mKeep (mVar 0)) (mCons (mKeep (mVar 1)) (mCons (mKeep (mVar 2)) (mCons (mKeep (mVar 3)) mNil))))))))
    (mRet (mX (mC (.bl false))))
    mSkip)
    (mSeq (mPar2 4 5 (mPv (mCall F__law_power (mCons (mKeep (mOp2 (iC mulC fun i j => i * j) (mC (.int 2)) (mVar 1))) mNil))) (mPv (mCall F__law_power (mCons (mKeep (mVar 1)) mNil))))
    (mSeq (mPar2 6 7 (mPv (mOpG fAdd (mOp2 (iC mulC fun i j => i * j) (mOp2 fIx (mVar 2) (mC (.int 0))) (mVar 5)) (mOp2 fIx (mVar 2) (mC (.int 1))))) (mPv (mOpG fAdd (mOp2 (iC mulC fun i j => i * j) (mOp2 fIx (mVar 3) (mC (.int 0))) (mVar 5)) (mOp2 fIx (mVar 3) (mC (.int 1))))))
    (mSeq (mIfS (mTest (mOp2 fNe (mFz (mCall F_double_product (mCons (mKeep (mVar 1)) (mCons (mKeep (mVar 2)) (mCons (mKeep (mVar 3)) mNil))))) (mTup (mCons (mKeepX (mCall F__law_pair (mCons (mKeep (mVar 1)) (mCons (mKeep (mOp2 (iC mulC fun i j => i * j) (mVar 6) (mVar 7))) mNil)))) (mCons (mKeep (mOp2 (iB fun i j => decide (i < j)) (mOp2 (iC mulC fun i j => i * j) (mVar 6) (mVar 7)) (mVar 4))) mNil)))))
    (mRet (mX (mC (.bl false))))
    mSkip)
    (mSeq (mSet 8 (mCB fMax2 (vCons (mC (.int 1)) (vCons (mFz (mCall F__law_word (mCons (mKeep (mVar 0)) (mCons (mKeep (mVar 1)) mNil)))) vNil))))
    (mSeq (mIfS (mTest (mOp2 fNe (mFz (mCall F_double_divided (mCons (mKeep (mVar 1)) (mCons (mKeep (mVar 2)) (mCons (mKeep (mVar 8)) mNil))))) (mTup (mCons (mKeepX (mCall F__law_pair (mCons (mKeep (mVar 1)) (mCons (mKeep (mOp2 (iC divC fun i j => i / j) (mVar 6) (mVar 8))) mNil)))) (mCons (mKeep (mOp2 (iC (fun _ j => decide (0 < j)) fun i j => i % j) (mFz (mCB fInt (vCons (mVar 6) vNil))) (mVar 8))) mNil)))))
    (mRet (mX (mC (.bl false))))
    mSkip)
    (mSeq (mAsg (mKeepX (mCall F_double_root (mCons (mKeep (mVar 1)) (mCons (mKeep (mVar 2)) mNil)))) (gT 2 (gsC (gN 9) (gsC (gN 10) gsN))))
    (mSeq (mSet 11 (mOpG fAdd (mOp2 (iC mulC fun i j => i * j) (mOp2 fIx (mVar 10) (mC (.int 0))) (mFz (mCall F__law_power (mCons (mKeep (mVar 1)) mNil)))) (mOp2 fIx (mVar 10) (mC (.int 1)))))
    (mSeq (mIfS (mOr (mTest (mOp2 fNe (mFz (mOpG fAdd (mOp2 (iC mulC fun i j => i * j) (mVar 9) (mVar 9)) (mVar 11))) (mVar 6))) (mOr (mNot (mTest (mChain (iB fun i j => decide (i ≤ j)) (iB fun i j => decide (i ≤ j)) (mC (.int 0)) (mVar 11) (mOp2 (iC mulC fun i j => i * j) (mC (.int 2)) (mVar 9))))) (mNot (mTest (mChain (iB fun i j => decide (i ≤ j)) (iB fun i j => decide (i < j)) (mC (.int 0)) (mVar 9) (mFz (mCall F__law_power (mCons (mKeep (mVar 1)) mNil))))))))
    (mRet (mX (mC (.bl false))))
    mSkip)
    (mSeq (mSet 8 (mCall F__law_word (mCons (mKeep (mVar 0)) (mCons (mKeep (mVar 1)) mNil))))
    (mSeq (mFor (mIt (mKeep (mTup (mCons (mKeep (mC (.str "plain"))) (mCons (mKeep (mC (.str "two"))) mNil))))) (gN 12)
    (mSeq (mSet 13 (mIf (mTest (mOp2 fEq (mVar 12) (mC (.str "two")))) (mCall F__law_two (mCons (mKeep (mVar 1)) (mCons (mKeep (mVar 8)) mNil))) (mX (mVar 8))))
    (mSeq (mSet 14 (mIf (mTest (mOp2 fEq (mVar 12) (mC (.str "two")))) (mCall F__law_two (mCons (mKeep (mOp2 (iC mulC fun i j => i * j) (mC (.int 2)) (mVar 1))) (mCons (mKeep (mVar 6)) mNil))) (mX (mVar 6))))
    (mSeq (mIfS (mTest (mOp2 fNe (mFz (mCB fRepr (vCons (mFz (mCall F_same_double (mCons (mKeep (mVar 12)) (mCons (mKeep (mVar 1)) (mCons (mKeep (mVar 2)) (mCons (mKeep (mVar 8)) mNil)))))) vNil))) (mFz (mCB fRepr (vCons (mOp2 fEq (mVar 14) (mVar 13)) vNil)))))
    (mRet (mX (mC (.bl false))))
    mSkip)
    (mIfS (mTest (mOp2 (fIsN true) (mFz (mCall F_same_double (mCons (mKeep (mVar 12)) (mCons (mKeep (mVar 1)) (mCons (mKeepX (mCall F__law_pair (mCons (mKeep (mVar 1)) (mCons (mKeep (mVar 13)) mNil)))) (mCons (mKeep (mVar 8)) mNil)))))) (mC (.bl true))))
    (mRet (mX (mC (.bl false))))
    mSkip)))) [12, 13, 14])
    (mRet (mX (mC (.bl true)))))))))))))))
theorem seq3 (A B C R : MoS) (st : MS) : mSeq A (mSeq B (mSeq C R)) st = (mSeq A (mSeq B C) st).seq R := by
  show (A st).seq (fun s => (B s).seq fun s => (C s).seq R) = ((A st).seq fun s => (B s).seq C).seq R
  cases A st with
  | nx s =>
    show (B s).seq (fun s => (C s).seq R) = ((B s).seq C).seq R
    cases B s with
    | nx s2 => rfl
    | _ => rfl
  | _ => rfl
theorem right_head {g : G} (hg : HandOk g) : ∃ (n : Nat) (a b c d : Int) (g' : G), mSeq (mSet 1 (mCall F__law_width (mCons (mKeep (mVar 0)) mNil))) (mSeq (mAsg (mKeepX (mLc (mRg1 (mCons (mKeep (mC (.int 2))) mNil)) (gN 15) mYes (mKeep (mTup (mCons (mKeepX (mCall F__law_word (mCons (mKeep (mVar 0)) (mCons (mKeep (mVar 1)) mNil)))) (mCons (mKeepX (mCall F__law_word (mCons (mKeep (mVar 0)) (mCons (mKeep (mVar 1)) mNil)))) mNil)))) [15])) (gL 2 (gsC (gN 2) (gsC (gN 3) gsN)))) (mIfS (mTest (mOp2 fEq (mFz (mCall F__law_draw (mCons (mKeep (mVar 0)) (mCons (mKeep (mC (.int 3))) mNil)))) (mC (.int 0))))
    (mSet 2 (mX (mTup (mCons (mKeep (mC (.int 0))) (mCons (mKeep (mOp2 fIx (mVar 2) (mC (.int 1)))) mNil)))))
    mSkip)) ⟨[some (.d (.live 0)), none, none, none, none, none, none, none, none, none, none, none, none, none, none, none], g⟩
    = .nx ⟨[some (.d (.live 0)), some (.d (.int n)), some (.d (.tup [.int a, .int b])), some (.d (.tup [.int c, .int d])), none, none, none, none, none, none, none, none, none, none, none, none], g'⟩ ∧ HandOk g' ∧ 1 ≤ n ∧ n ≤ 64 ∧ 0 ≤ a ∧ a < 2 ^ n ∧ 0 ≤ b ∧ b < 2 ^ n ∧ 0 ≤ c ∧ c < 2 ^ n ∧ 0 ≤ d ∧ d < 2 ^ n := by
  obtain ⟨n, g1, e1, hg1, h1, h2⟩ := e_width hg
  obtain ⟨a', b, c, d, g2, e2, hg2, a0', a1', b0, b1, c0, c1, d0, d1⟩ := pairs_ok h1 h2 hg1
  obtain ⟨z, g3, e3, hg3, z0, z1⟩ := draw_ok hg2 (k := 3) (by decide) (by decide)
  have hp := two_pos n
  have i2 : Y.inR 2 = true := inR_of (by decide) (by decide)
  by_cases hz : z = 0
  · subst hz
    exact ⟨n, 0, b, c, d, g3, by simp [i2, e1, e2, e3, atI_of, lim], hg3, h1, h2, by omega, by omega, b0, b1, c0, c1, d0, d1⟩
  · exact ⟨n, a', b, c, d, g3, by simp [i2, e1, e2, e3, hz, lim], hg3, h1, h2, a0', a1', b0, b1, c0, c1, d0, d1⟩
theorem right_ok {g : G} (hg : HandOk g) : ∃ g', F__law_right [.live 0] g = .ok (.d (.bl true)) g' ∧ HandOk g' := by
  obtain ⟨n, a, b, c, d, g3, e3, hg3, h1, h2, a0, a1, b0, b1, c0, c1, d0, d1⟩ := right_head hg
  have hp := two_pos n
  have hb := bnd h2
  obtain ⟨g4, e4, hg4⟩ := sums_ok h1 h2 a0 a1 b0 b1 c0 c1 d0 d1 hg3
  obtain ⟨v, g5, e5, hg5, v0, v1⟩ := e_word h1 h2 hg4
  obtain ⟨w, g6, e6, hg6, w0, w1⟩ := e_word h1 h2 hg5
  refine ⟨g6, ?_, hg6⟩
  have hT : (2 : Int) ^ n * 2 ^ n ≤ 340282366920938463463374607431768211456 := Int.mul_le_mul hb hb (by omega) (by decide)
  obtain ⟨f0, f1⟩ := ff_lt a0 a1 b0 b1
  obtain ⟨k0, k1⟩ := ff_lt c0 c1 d0 d1
  have h2p : (2 : Int) ≤ 2 ^ n := by
    have := two_le h1
    simpa using this
  obtain ⟨V, hV, V0, V1⟩ : ∃ V : Int, (if 1 < v then v else 1) = V ∧ 0 < V ∧ V < 2 ^ n := ⟨_, rfl, by split <;> omega, by split <;> omega⟩
  have hma : mulC a (2 ^ n) = true := mulC_l (by omega) (by omega)
  have hmc : mulC c (2 ^ n) = true := mulC_l (by omega) (by omega)
  have hmFS : mulC (a * 2 ^ n + b) (c * 2 ^ n + d) = true := mulC_s (sm_of (by omega) (by omega)) (sm_of (by omega) (by omega))
  have hdV : divC (a * 2 ^ n + b) V = true := divC_of V0 (by omega)
  have pw1 := fun g => power_ok n (by omega) g
  have pw2 : ∀ g, F__law_power [.int (2 * (n : Int))] g = .ok (.d (.int (2 ^ n * 2 ^ n))) g := fun g => by
    have e := power_ok (2 * n) (by omega) g
    rw [two_two, show ((2 * n : Nat) : Int) = 2 * (n : Int) by omega] at e
    exact e
  obtain ⟨r, x0, r0, r1, r2, r3⟩ := e_double_root h1 h2 a0 a1 b0 b1 g5
  have hmr : mulC r r = true := mulC_l (by omega) (by omega)
  obtain ⟨p, q, epq, p0, p1, q0, q1, hpq⟩ := pp_parts (n := n) (a * 2 ^ n + b - r * r)
  have hrr : 0 ≤ r * r := Int.mul_nonneg r0 r0
  rw [Int.emod_eq_of_lt (by omega) (by omega)] at hpq
  rw [epq] at x0
  have hmp : mulC p (2 ^ n) = true := mulC_l (by omega) (by omega)
  have l1 : r * r + (a * 2 ^ n + b - r * r) = a * 2 ^ n + b := by omega
  have l2 : a * 2 ^ n + b - r * r ≤ 2 * r := by
    have : (r + 1) * (r + 1) = r * r + 2 * r + 1 := by grind
    omega
  have l3 : 0 ≤ a * 2 ^ n + b - r * r := by omega
  have x1 := fun g => e_double_product h1 h2 a0 a1 b0 b1 c0 c1 d0 d1 g
  have x2 := fun g => e_double_divided h1 h2 a0 a1 b0 b1 V0 V1 g
  have y1 := fun g => e_law_pair h1 h2 ((a * 2 ^ n + b) * (c * 2 ^ n + d)) g
  have y2 := fun g => e_law_pair h1 h2 ((a * 2 ^ n + b) / V) g
  have y3 := fun g => e_law_pair h1 h2 w g
  have y4 := fun g => e_law_pair h1 h2 (tw (2 ^ n) w) g
  have s1 := fun g => e_same_plain h1 h2 a0 a1 b0 b1 w0 w1 g
  have s2 := fun g => e_same_two h1 h2 a0 a1 b0 b1 w0 w1 g
  have s3 := fun g => same1 h1 h2 w0 w1 g
  have s4 := fun g => same2 h1 h2 w0 w1 g
  have t1 : ∀ g, F__law_two [.int n, .int w] g = .ok (.d (.int (tw (2 ^ n) w))) g := fun g => e_law_two1 h1 h2 w g
  have t2 : ∀ g, F__law_two [.int (2 * (n : Int)), .int (a * 2 ^ n + b)] g = .ok (.d (.int (tw (2 ^ n * 2 ^ n) (a * 2 ^ n + b)))) g := fun g => e_law_two2 h1 h2 _ g
  have i2 : Y.inR 2 = true := inR_of (by decide) (by decide)
  clear hT hb f0 f1 k0 k1
  generalize hF : a * 2 ^ n + b = F at *
  generalize hS : c * 2 ^ n + d = S at *
  generalize hTT : (2 : Int) ^ n * 2 ^ n = T at *
  generalize hHH : (2 : Int) ^ n = H at *
  generalize hRR : r * r = R at *
  obtain ⟨Lf, hL⟩ : ∃ L, p * H + q = L := ⟨_, rfl⟩
  rw [hL] at hpq
  rw [← hpq] at l1 l2 l3
  have e0 : F__law_right [.live 0] g = (match ((mSeq (mSet 1 (mCall F__law_width (mCons (mKeep (mVar 0)) mNil))) (mSeq (mAsg (mKeepX (mLc (mRg1 (mCons (mKeep (mC (.int 2))) mNil)) (gN 15) mYes (mKeep (mTup (mCons (mKeepX (mCall F__law_word (mCons (mKeep (mVar 0)) (mCons (mKeep (mVar 1)) mNil)))) (mCons (mKeepX (mCall F__law_word (mCons (mKeep (mVar 0)) (mCons (mKeep (mVar 1)) mNil)))) mNil)))) [15])) (gL 2 (gsC (gN 2) (gsC (gN 3) gsN)))) (mIfS (mTest (mOp2 fEq (mFz (mCall F__law_draw (mCons (mKeep (mVar 0)) (mCons (mKeep (mC (.int 3))) mNil)))) (mC (.int 0))))
    (mSet 2 (mX (mTup (mCons (mKeep (mC (.int 0))) (mCons (mKeep (mOp2 fIx (mVar 2) (mC (.int 1)))) mNil)))))
    mSkip)) ⟨[some (.d (.live 0)), none, none, none, none, none, none, none, none, none, none, none, none, none, none, none], g⟩).seq (right_rest)) with
  | .rt r g' => .ok r g'
  | .nx s0 => .ok (.d .non) s0.g
  | .ex x as s0 => .ex x as s0.g
  | _ => .bad) := by rw [← seq3]; rfl
  rw [e0, e3]
  simp [right_rest, mul2, pw1, pw2, e4, e5, e6, hV, atI_of, hma, hmc, hmFS, hdV, V0, hF, hS, hRR, hL, hmr, hmp, l1, l2, l3, r0, r1, x0, x1, x2, y1, y2, y3, y4, ↓val_pp, ne_ppb, ne_ppi, lim, mForL, eq_pt, eq_tt, s1, s2, s3, s4, t1, t2, rep_self]
theorem root18 (g : G) : F_double_root [.int 4, .tup [.int 1, .int 2]] g = .ok (.d (.tup [.int 4, .tup [.int 0, .int 2]])) g := by
  obtain ⟨r, e, r0, r1, r2, r3⟩ := e_double_root (n := 4) (a := 1) (b := 2) (by decide) (by decide) (by decide) (by decide) (by decide) (by decide) g
  have h : r = 4 := by
    have r1' : r < 16 := r1
    have r2' : r * r ≤ 18 := r2
    have r3' : 18 < (r + 1) * (r + 1) := r3
    obtain ⟨k, rfl⟩ := Int.eq_ofNat_of_zero_le r0
    have hk : k < 16 := by omega
    rcases k with _ | _ | _ | _ | _ | _ | _ | _ | _ | _ | _ | _ | _ | _ | _ | _ | k <;> first | omega | rfl
  subst h
  exact e
theorem main (ns : List Int) (h : ns.length ≤ 63) : ∃ g, fnM 3 m_law [.scr ns] [] = .ok (.d (.bl true)) g := by
  obtain ⟨cs, m, e0, hc⟩ := hand_ok h []
  have hg0 : HandOk [.l [.lst (cellsOf cs), .int 0, .int 0, .int m, .int 0]] := ⟨cs, 0, 0, m, 0, rfl, hc, by decide, by decide⟩
  have x1 : ∀ g, F_double_sum [.int 4, .tup [.int 0, .int 15], .tup [.int 0, .int 1]] g = .ok (.d (.tup [.tup [.int 1, .int 0], .int 0])) g := fun g => e_double_sum (n := 4) (a := 0) (b := 15) (c := 0) (d := 1) (by decide) (by decide) (by decide) (by decide) (by decide) (by decide) (by decide) (by decide) (by decide) (by decide) g
  have x2 : ∀ g, F_double_difference [.int 4, .tup [.int 0, .int 0], .tup [.int 0, .int 1]] g = .ok (.d (.tup [.tup [.int 15, .int 15], .int 1])) g := fun g => e_double_difference (n := 4) (a := 0) (b := 0) (c := 0) (d := 1) (by decide) (by decide) (by decide) (by decide) (by decide) (by decide) (by decide) (by decide) (by decide) (by decide) g
  have x3 : ∀ g, F_double_places [.int 4, .tup [.int 0, .int 0]] g = .ok (.d (.tup [.int (-1), .int 8])) g := fun g => e_double_places0 (n := 4) (by decide) (by decide) g
  obtain ⟨g1, y1, hg1⟩ := right_ok hg0
  obtain ⟨g2, y2, hg2⟩ := right_ok hg1
  obtain ⟨g3, y3, hg3⟩ := right_ok hg2
  obtain ⟨g4, y4, hg4⟩ := right_ok hg3
  obtain ⟨g5, y5, hg5⟩ := right_ok hg4
  obtain ⟨g6, y6, hg6⟩ := right_ok hg5
  have i6 : Y.inR 6 = true := inR_of (by decide) (by decide)
  refine ⟨g6, ?_⟩
  simp [m_law, e0, x1, x2, x3, root18, fNe, lim, i6, rgD, lcL, List.range, List.range.loop, y1, y2, y3, y4, y5, y6, blsOf]
end Law
namespace Law
open PySem PySem.Spec PyProof.Rows L2 Y
theorem all_ok {P : Program} {w : World} {K : PySem.W.Frag} {mg : Str → Option Value} {base : Heap} {fa : Addr} {fd : FuncData} (Z : Zs K mg) (D_is_integer : DefAt K mg "is_integer" s_is_integer ["thing"]) (D_is_within : DefAt K mg "is_within" s_is_within ["thing", "low", "high"]) (D_check_width : DefAt K mg "check_width" s_check_width ["width"]) (D_is_word : DefAt K mg "is_word" s_is_word ["width", "thing"]) (D_check_word : DefAt K mg "check_word" s_check_word ["width", "word"]) (D_check_double : DefAt K mg "check_double" s_check_double ["width", "pair"]) (D_whole : DefAt K mg "whole" s_whole ["width", "pair"]) (D_split : DefAt K mg "split" s_split ["width", "number"]) (D_double_of : DefAt K mg "double_of" s_double_of ["width", "number"]) (D_double_sum : DefAt K mg "double_sum" s_double_sum ["width", "one", "other"]) (D_double_difference : DefAt K mg "double_difference" s_double_difference ["width", "one", "other"]) (D_double_turned : DefAt K mg "double_turned" s_double_turned ["width", "pair"]) (D_check_steps : DefAt K mg "check_steps" s_check_steps ["width", "steps"]) (D_double_up : DefAt K mg "double_up" s_double_up ["width", "pair", "steps"]) (D_double_down : DefAt K mg "double_down" s_double_down ["width", "pair", "steps"]) (D_double_compared : DefAt K mg "double_compared" s_double_compared ["reading", "width", "one", "other"]) (D_double_product : DefAt K mg "double_product" s_double_product ["width", "one", "other"]) (D_double_divided : DefAt K mg "double_divided" s_double_divided ["width", "pair", "word"]) (D_length_of : DefAt K mg "length_of" s_length_of ["number"]) (D_double_places : DefAt K mg "double_places" s_double_places ["width", "pair"]) (D_double_root : DefAt K mg "double_root" s_double_root ["width", "pair"]) (D_same_double : DefAt K mg "same_double" s_same_double ["reading", "width", "pair", "word"]) (D__law_hand : DefAt K mg "_law_hand" s__law_hand ["script"]) (D__law_draw : DefAt K mg "_law_draw" s__law_draw ["hand", "many"]) (D__law_some : DefAt K mg "_law_some" s__law_some ["hand", "things"]) (D__law_power : DefAt K mg "_law_power" s__law_power ["many"]) (D__law_word : DefAt K mg "_law_word" s__law_word ["hand", "width"]) (D__law_width : DefAt K mg "_law_width" s__law_width ["hand"]) (D__law_two : DefAt K mg "_law_two" s__law_two ["width", "word"]) (D__law_pair : DefAt K mg "_law_pair" s__law_pair ["width", "number"]) (D__law_places : DefAt K mg "_law_places" s__law_places ["number", "width"]) (D__law_sums_right : DefAt K mg "_law_sums_right" s__law_sums_right ["hand", "width", "one", "other"]) (D__law_right : DefAt K mg "_law_right" s__law_right ["hand"]) (FL : Fun K "law" "law" s_law fa fd) : FnOk P w K mg base (L2.CX P w) 10 fa fd ["script"] (spLaw K) := by
  have G_is_integer := cal_is_integer (P := P) (w := w) (base := base) D_is_integer Z 
  have G_is_within := cal_is_within (P := P) (w := w) (base := base) D_is_within Z G_is_integer
  have G_check_width := cal_check_width (P := P) (w := w) (base := base) D_check_width Z G_is_within
  have G_is_word := cal_is_word (P := P) (w := w) (base := base) D_is_word Z G_is_within G_check_width
  have G_check_word := cal_check_word (P := P) (w := w) (base := base) D_check_word Z G_is_word
  have G_check_double := cal_check_double (P := P) (w := w) (base := base) D_check_double Z G_check_word
  have G_whole := cal_whole (P := P) (w := w) (base := base) D_whole Z G_check_double
  have G_split := cal_split (P := P) (w := w) (base := base) D_split Z 
  have G_double_of := cal_double_of (P := P) (w := w) (base := base) D_double_of Z G_split G_is_within G_check_word
  have G_double_sum := cal_double_sum (P := P) (w := w) (base := base) D_double_sum Z G_check_double
  have G_double_difference := cal_double_difference (P := P) (w := w) (base := base) D_double_difference Z G_check_double
  have G_double_turned := cal_double_turned (P := P) (w := w) (base := base) D_double_turned Z G_check_double
  have G_check_steps := cal_check_steps (P := P) (w := w) (base := base) D_check_steps Z G_is_within
  have G_double_up := cal_double_up (P := P) (w := w) (base := base) D_double_up Z G_split G_check_steps G_check_double
  have G_double_down := cal_double_down (P := P) (w := w) (base := base) D_double_down Z G_split G_check_steps G_check_double
  have G_double_compared := cal_double_compared (P := P) (w := w) (base := base) D_double_compared Z G_check_double
  have G_double_product := cal_double_product (P := P) (w := w) (base := base) D_double_product Z G_check_double
  have G_double_divided := cal_double_divided (P := P) (w := w) (base := base) D_double_divided Z G_check_word G_check_double
  have G_length_of := cal_length_of (P := P) (w := w) (base := base) D_length_of Z 
  have G_double_places := cal_double_places (P := P) (w := w) (base := base) D_double_places Z G_length_of G_check_double
  have G_double_root := cal_double_root (P := P) (w := w) (base := base) D_double_root Z G_split G_check_double
  have G_same_double := cal_same_double (P := P) (w := w) (base := base) D_same_double Z G_check_word G_check_double
  have G__law_hand := cal__law_hand (P := P) (w := w) (base := base) D__law_hand Z 
  have G__law_draw := cal__law_draw (P := P) (w := w) (base := base) D__law_draw Z 
  have G__law_some := cal__law_some (P := P) (w := w) (base := base) D__law_some Z G__law_draw
  have G__law_power := cal__law_power (P := P) (w := w) (base := base) D__law_power Z 
  have G__law_word := cal__law_word (P := P) (w := w) (base := base) D__law_word Z G__law_draw G__law_some G__law_power
  have G__law_width := cal__law_width (P := P) (w := w) (base := base) D__law_width Z G__law_some
  have G__law_two := cal__law_two (P := P) (w := w) (base := base) D__law_two Z G__law_power
  have G__law_pair := cal__law_pair (P := P) (w := w) (base := base) D__law_pair Z G__law_power
  have G__law_places := cal__law_places (P := P) (w := w) (base := base) D__law_places Z G__law_power
  have G__law_sums_right := cal__law_sums_right (P := P) (w := w) (base := base) D__law_sums_right Z G_double_compared G__law_two G_double_places G__law_places G_double_down G__law_pair G__law_power G_double_up G__law_draw G_double_turned G_double_difference G_double_sum G_whole G_double_of
  have G__law_right := cal__law_right (P := P) (w := w) (base := base) D__law_right Z G_same_double G__law_pair G__law_two G__law_word G__law_power G_double_root G_double_divided G_double_product G__law_sums_right G__law_draw G__law_width
  exact law_ok FL sc_law (by decide) (k := 9) (m := m_law) (fun cdv A outer s H B E hr nd => body_law Z G__law_right G_double_root G_double_places G_double_sum G_double_difference G__law_hand fa cdv A outer s H B E hr nd) main
end Law
open PySem PySem.W PyProof.Rows
set_option maxHeartbeats 0 in
theorem PySem.Challenge.cw_wordhouse_k81_whole_two_words_holds : PySem.Challenge.rw_wordhouse_k81_whole_two_words.Holds := by
  w_on; o_law; k_head; (case hw => w_witness2)
  k_fill
  refine L2.walk_of (l := PySem.Challenge.rw_wordhouse_k81_whole_two_words) (n := 63) (k := 10) (x := "script") (CX := fun w => L2.CX (PySem.Challenge.rw_wordhouse_k81_whole_two_words).prog w) (sp := fun w => Y.spLaw _) rfl (by decide) rfl ⟨rfl, by decide, by decide⟩ (fun w h Y => PySem.W.kIn_of Y) ?F (fun _ _ a ns hl _ hS => ⟨a, ns, rfl, hS, hl, fun _ => rfl⟩) (fun w H s e s' h => Y.cx_no w H s e s' h)
  case F =>
    intro w mg fa h KX G hmg
    have D_is_integer : Y.DefAt (L2.KOf KX) mg "is_integer" Law.s_is_integer ["thing"] := by
      refine' Y.def_at KX G (x := "is_integer") Law.s_is_integer ["thing"] ?a ?l ?c ?k (fun _ _ _ _ _ _ us hl => match us, hl with | [_], _ => rfl)
      (case a => k_is); (case l => k_is); (case c => k_is); (case k => k_is)
    have D_is_within : Y.DefAt (L2.KOf KX) mg "is_within" Law.s_is_within ["thing", "low", "high"] := by
      refine' Y.def_at KX G (x := "is_within") Law.s_is_within ["thing", "low", "high"] ?a ?l ?c ?k (fun _ _ _ _ _ _ us hl => match us, hl with | [_, _, _], _ => rfl)
      (case a => k_is); (case l => k_is); (case c => k_is); (case k => k_is)
    have D_check_width : Y.DefAt (L2.KOf KX) mg "check_width" Law.s_check_width ["width"] := by
      refine' Y.def_at KX G (x := "check_width") Law.s_check_width ["width"] ?a ?l ?c ?k (fun _ _ _ _ _ _ us hl => match us, hl with | [_], _ => rfl)
      (case a => k_is); (case l => k_is); (case c => k_is); (case k => k_is)
    have D_is_word : Y.DefAt (L2.KOf KX) mg "is_word" Law.s_is_word ["width", "thing"] := by
      refine' Y.def_at KX G (x := "is_word") Law.s_is_word ["width", "thing"] ?a ?l ?c ?k (fun _ _ _ _ _ _ us hl => match us, hl with | [_, _], _ => rfl)
      (case a => k_is); (case l => k_is); (case c => k_is); (case k => k_is)
    have D_check_word : Y.DefAt (L2.KOf KX) mg "check_word" Law.s_check_word ["width", "word"] := by
      refine' Y.def_at KX G (x := "check_word") Law.s_check_word ["width", "word"] ?a ?l ?c ?k (fun _ _ _ _ _ _ us hl => match us, hl with | [_, _], _ => rfl)
      (case a => k_is); (case l => k_is); (case c => k_is); (case k => k_is)
    have D_check_double : Y.DefAt (L2.KOf KX) mg "check_double" Law.s_check_double ["width", "pair"] := by
      refine' Y.def_at KX G (x := "check_double") Law.s_check_double ["width", "pair"] ?a ?l ?c ?k (fun _ _ _ _ _ _ us hl => match us, hl with | [_, _], _ => rfl)
      (case a => k_is); (case l => k_is); (case c => k_is); (case k => k_is)
    have D_whole : Y.DefAt (L2.KOf KX) mg "whole" Law.s_whole ["width", "pair"] := by
      refine' Y.def_at KX G (x := "whole") Law.s_whole ["width", "pair"] ?a ?l ?c ?k (fun _ _ _ _ _ _ us hl => match us, hl with | [_, _], _ => rfl)
      (case a => k_is); (case l => k_is); (case c => k_is); (case k => k_is)
    have D_split : Y.DefAt (L2.KOf KX) mg "split" Law.s_split ["width", "number"] := by
      refine' Y.def_at KX G (x := "split") Law.s_split ["width", "number"] ?a ?l ?c ?k (fun _ _ _ _ _ _ us hl => match us, hl with | [_, _], _ => rfl)
      (case a => k_is); (case l => k_is); (case c => k_is); (case k => k_is)
    have D_double_of : Y.DefAt (L2.KOf KX) mg "double_of" Law.s_double_of ["width", "number"] := by
      refine' Y.def_at KX G (x := "double_of") Law.s_double_of ["width", "number"] ?a ?l ?c ?k (fun _ _ _ _ _ _ us hl => match us, hl with | [_, _], _ => rfl)
      (case a => k_is); (case l => k_is); (case c => k_is); (case k => k_is)
    have D_double_sum : Y.DefAt (L2.KOf KX) mg "double_sum" Law.s_double_sum ["width", "one", "other"] := by
      refine' Y.def_at KX G (x := "double_sum") Law.s_double_sum ["width", "one", "other"] ?a ?l ?c ?k (fun _ _ _ _ _ _ us hl => match us, hl with | [_, _, _], _ => rfl)
      (case a => k_is); (case l => k_is); (case c => k_is); (case k => k_is)
    have D_double_difference : Y.DefAt (L2.KOf KX) mg "double_difference" Law.s_double_difference ["width", "one", "other"] := by
      refine' Y.def_at KX G (x := "double_difference") Law.s_double_difference ["width", "one", "other"] ?a ?l ?c ?k (fun _ _ _ _ _ _ us hl => match us, hl with | [_, _, _], _ => rfl)
      (case a => k_is); (case l => k_is); (case c => k_is); (case k => k_is)
    have D_double_turned : Y.DefAt (L2.KOf KX) mg "double_turned" Law.s_double_turned ["width", "pair"] := by
      refine' Y.def_at KX G (x := "double_turned") Law.s_double_turned ["width", "pair"] ?a ?l ?c ?k (fun _ _ _ _ _ _ us hl => match us, hl with | [_, _], _ => rfl)
      (case a => k_is); (case l => k_is); (case c => k_is); (case k => k_is)
    have D_check_steps : Y.DefAt (L2.KOf KX) mg "check_steps" Law.s_check_steps ["width", "steps"] := by
      refine' Y.def_at KX G (x := "check_steps") Law.s_check_steps ["width", "steps"] ?a ?l ?c ?k (fun _ _ _ _ _ _ us hl => match us, hl with | [_, _], _ => rfl)
      (case a => k_is); (case l => k_is); (case c => k_is); (case k => k_is)
    have D_double_up : Y.DefAt (L2.KOf KX) mg "double_up" Law.s_double_up ["width", "pair", "steps"] := by
      refine' Y.def_at KX G (x := "double_up") Law.s_double_up ["width", "pair", "steps"] ?a ?l ?c ?k (fun _ _ _ _ _ _ us hl => match us, hl with | [_, _, _], _ => rfl)
      (case a => k_is); (case l => k_is); (case c => k_is); (case k => k_is)
    have D_double_down : Y.DefAt (L2.KOf KX) mg "double_down" Law.s_double_down ["width", "pair", "steps"] := by
      refine' Y.def_at KX G (x := "double_down") Law.s_double_down ["width", "pair", "steps"] ?a ?l ?c ?k (fun _ _ _ _ _ _ us hl => match us, hl with | [_, _, _], _ => rfl)
      (case a => k_is); (case l => k_is); (case c => k_is); (case k => k_is)
    have D_double_compared : Y.DefAt (L2.KOf KX) mg "double_compared" Law.s_double_compared ["reading", "width", "one", "other"] := by
      refine' Y.def_at KX G (x := "double_compared") Law.s_double_compared ["reading", "width", "one", "other"] ?a ?l ?c ?k (fun _ _ _ _ _ _ us hl => match us, hl with | [_, _, _, _], _ => rfl)
      (case a => k_is); (case l => k_is); (case c => k_is); (case k => k_is)
    have D_double_product : Y.DefAt (L2.KOf KX) mg "double_product" Law.s_double_product ["width", "one", "other"] := by
      refine' Y.def_at KX G (x := "double_product") Law.s_double_product ["width", "one", "other"] ?a ?l ?c ?k (fun _ _ _ _ _ _ us hl => match us, hl with | [_, _, _], _ => rfl)
      (case a => k_is); (case l => k_is); (case c => k_is); (case k => k_is)
    have D_double_divided : Y.DefAt (L2.KOf KX) mg "double_divided" Law.s_double_divided ["width", "pair", "word"] := by
      refine' Y.def_at KX G (x := "double_divided") Law.s_double_divided ["width", "pair", "word"] ?a ?l ?c ?k (fun _ _ _ _ _ _ us hl => match us, hl with | [_, _, _], _ => rfl)
      (case a => k_is); (case l => k_is); (case c => k_is); (case k => k_is)
    have D_length_of : Y.DefAt (L2.KOf KX) mg "length_of" Law.s_length_of ["number"] := by
      refine' Y.def_at KX G (x := "length_of") Law.s_length_of ["number"] ?a ?l ?c ?k (fun _ _ _ _ _ _ us hl => match us, hl with | [_], _ => rfl)
      (case a => k_is); (case l => k_is); (case c => k_is); (case k => k_is)
    have D_double_places : Y.DefAt (L2.KOf KX) mg "double_places" Law.s_double_places ["width", "pair"] := by
      refine' Y.def_at KX G (x := "double_places") Law.s_double_places ["width", "pair"] ?a ?l ?c ?k (fun _ _ _ _ _ _ us hl => match us, hl with | [_, _], _ => rfl)
      (case a => k_is); (case l => k_is); (case c => k_is); (case k => k_is)
    have D_double_root : Y.DefAt (L2.KOf KX) mg "double_root" Law.s_double_root ["width", "pair"] := by
      refine' Y.def_at KX G (x := "double_root") Law.s_double_root ["width", "pair"] ?a ?l ?c ?k (fun _ _ _ _ _ _ us hl => match us, hl with | [_, _], _ => rfl)
      (case a => k_is); (case l => k_is); (case c => k_is); (case k => k_is)
    have D_same_double : Y.DefAt (L2.KOf KX) mg "same_double" Law.s_same_double ["reading", "width", "pair", "word"] := by
      refine' Y.def_at KX G (x := "same_double") Law.s_same_double ["reading", "width", "pair", "word"] ?a ?l ?c ?k (fun _ _ _ _ _ _ us hl => match us, hl with | [_, _, _, _], _ => rfl)
      (case a => k_is); (case l => k_is); (case c => k_is); (case k => k_is)
    have D__law_hand : Y.DefAt (L2.KOf KX) mg "_law_hand" Law.s__law_hand ["script"] := by
      refine' Y.def_at KX G (x := "_law_hand") Law.s__law_hand ["script"] ?a ?l ?c ?k (fun _ _ _ _ _ _ us hl => match us, hl with | [_], _ => rfl)
      (case a => k_is); (case l => k_is); (case c => k_is); (case k => k_is)
    have D__law_draw : Y.DefAt (L2.KOf KX) mg "_law_draw" Law.s__law_draw ["hand", "many"] := by
      refine' Y.def_at KX G (x := "_law_draw") Law.s__law_draw ["hand", "many"] ?a ?l ?c ?k (fun _ _ _ _ _ _ us hl => match us, hl with | [_, _], _ => rfl)
      (case a => k_is); (case l => k_is); (case c => k_is); (case k => k_is)
    have D__law_some : Y.DefAt (L2.KOf KX) mg "_law_some" Law.s__law_some ["hand", "things"] := by
      refine' Y.def_at KX G (x := "_law_some") Law.s__law_some ["hand", "things"] ?a ?l ?c ?k (fun _ _ _ _ _ _ us hl => match us, hl with | [_, _], _ => rfl)
      (case a => k_is); (case l => k_is); (case c => k_is); (case k => k_is)
    have D__law_power : Y.DefAt (L2.KOf KX) mg "_law_power" Law.s__law_power ["many"] := by
      refine' Y.def_at KX G (x := "_law_power") Law.s__law_power ["many"] ?a ?l ?c ?k (fun _ _ _ _ _ _ us hl => match us, hl with | [_], _ => rfl)
      (case a => k_is); (case l => k_is); (case c => k_is); (case k => k_is)
    have D__law_word : Y.DefAt (L2.KOf KX) mg "_law_word" Law.s__law_word ["hand", "width"] := by
      refine' Y.def_at KX G (x := "_law_word") Law.s__law_word ["hand", "width"] ?a ?l ?c ?k (fun _ _ _ _ _ _ us hl => match us, hl with | [_, _], _ => rfl)
      (case a => k_is); (case l => k_is); (case c => k_is); (case k => k_is)
    have D__law_width : Y.DefAt (L2.KOf KX) mg "_law_width" Law.s__law_width ["hand"] := by
      refine' Y.def_at KX G (x := "_law_width") Law.s__law_width ["hand"] ?a ?l ?c ?k (fun _ _ _ _ _ _ us hl => match us, hl with | [_], _ => rfl)
      (case a => k_is); (case l => k_is); (case c => k_is); (case k => k_is)
    have D__law_two : Y.DefAt (L2.KOf KX) mg "_law_two" Law.s__law_two ["width", "word"] := by
      refine' Y.def_at KX G (x := "_law_two") Law.s__law_two ["width", "word"] ?a ?l ?c ?k (fun _ _ _ _ _ _ us hl => match us, hl with | [_, _], _ => rfl)
      (case a => k_is); (case l => k_is); (case c => k_is); (case k => k_is)
    have D__law_pair : Y.DefAt (L2.KOf KX) mg "_law_pair" Law.s__law_pair ["width", "number"] := by
      refine' Y.def_at KX G (x := "_law_pair") Law.s__law_pair ["width", "number"] ?a ?l ?c ?k (fun _ _ _ _ _ _ us hl => match us, hl with | [_, _], _ => rfl)
      (case a => k_is); (case l => k_is); (case c => k_is); (case k => k_is)
    have D__law_places : Y.DefAt (L2.KOf KX) mg "_law_places" Law.s__law_places ["number", "width"] := by
      refine' Y.def_at KX G (x := "_law_places") Law.s__law_places ["number", "width"] ?a ?l ?c ?k (fun _ _ _ _ _ _ us hl => match us, hl with | [_, _], _ => rfl)
      (case a => k_is); (case l => k_is); (case c => k_is); (case k => k_is)
    have D__law_sums_right : Y.DefAt (L2.KOf KX) mg "_law_sums_right" Law.s__law_sums_right ["hand", "width", "one", "other"] := by
      refine' Y.def_at KX G (x := "_law_sums_right") Law.s__law_sums_right ["hand", "width", "one", "other"] ?a ?l ?c ?k (fun _ _ _ _ _ _ us hl => match us, hl with | [_, _, _, _], _ => rfl)
      (case a => k_is); (case l => k_is); (case c => k_is); (case k => k_is)
    have D__law_right : Y.DefAt (L2.KOf KX) mg "_law_right" Law.s__law_right ["hand"] := by
      refine' Y.def_at KX G (x := "_law_right") Law.s__law_right ["hand"] ?a ?l ?c ?k (fun _ _ _ _ _ _ us hl => match us, hl with | [_], _ => rfl)
      (case a => k_is); (case l => k_is); (case c => k_is); (case k => k_is)
    have Z : Law.Zs (L2.KOf KX) mg := ⟨PySem.W.mg_none_of KX G (by k_is), PySem.W.mg_none_of KX G (by k_is), PySem.W.mg_none_of KX G (by k_is), PySem.W.mg_none_of KX G (by k_is), PySem.W.mg_none_of KX G (by k_is), PySem.W.mg_none_of KX G (by k_is), PySem.W.mg_none_of KX G (by k_is), PySem.W.mg_none_of KX G (by k_is), PySem.W.mg_none_of KX G (by k_is), PySem.W.mg_none_of KX G (by k_is), PySem.W.mg_none_of KX G (by k_is), Y.konst_int KX G (by k_is)⟩
    have go : ∃ (fd : FuncData), mg "law" = some (.ref fa) ∧ L2.Fun (L2.KOf KX) "law" "law" Law.s_law fa fd ∧ ∀ (s : Shared) (u : Value), BindsTo s fd ⟨[u], []⟩ [("script", u)] := by
      refine' Y.law_at KX G hmg Law.s_law ?a ?l ?c ?k (fun _ _ _ _ _ _ _ => rfl)
      (case a => k_is); (case l => k_is); (case c => k_is); (case k => k_is)
    obtain ⟨fd, _, FL, hb⟩ := go
    exact ⟨fd, hb, fun base _ _ => Law.all_ok Z D_is_integer D_is_within D_check_width D_is_word D_check_word D_check_double D_whole D_split D_double_of D_double_sum D_double_difference D_double_turned D_check_steps D_double_up D_double_down D_double_compared D_double_product D_double_divided D_length_of D_double_places D_double_root D_same_double D__law_hand D__law_draw D__law_some D__law_power D__law_word D__law_width D__law_two D__law_pair D__law_places D__law_sums_right D__law_right FL⟩
